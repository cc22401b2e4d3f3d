import PyProof.Rows.All
import Wide.All
import OpenK.AllK
import Wide.FinOn
import HandS.ForMost
import HandS.ForExc
import HandS.ForSpec
import HandS.Wide
import HandS.Deep
import HandS.TupAny
import HandS.IsInst
import HandS.Codes
import HandS.Style
import HandS.TryOnly
import HandS.Defaults
import HandS.ExcIs
import HandS.ExcOwn
import HandS.HeadHook1
import HandS.Head0
import HandS.Head1
import HandS.Head2
import HandS.HeadEnd
import HandS.HeadHook2
import HandS.TupLe
import HandS.More
import HandS.Text
import HandS.SetFor
import HandS.HeadHook3
import PyProof.StrBlock2
import PyProof.ListStr
import PyProof.Rows.StrRev
import HandS.Sort
import PyProof.ListRange
import HandS.Iter
import HandS.Zip
import KE.GoesEnum
import KE.GoesZip
import HandS.ExcField
import HandS.ExcInit
import HandS.ClsMeth
import KE.KExcIs
import PySem.Challenge.RW_fanglue_k84_things_as_papers
set_option Elab.async false
set_option maxRecDepth 100000
set_option maxHeartbeats 4000000
namespace DL
open PySem PySem.Spec PyProof.Rows L2
abbrev D := PyData
/-! ### data in a heap -/
mutual
inductive Rp (K : PySem.W.Frag) (H : Hp) : V → D → Prop
  | non : Rp K H .non .none
  | bl (b : Bool) : Rp K H (.bl b) (.bool b)
  | int (i : Int) : Rp K H (.int i) (.int i)
  | str (x : Str) : Rp K H (.str x) (.str x)
  | lst {a : Addr} {xs : List V} {ds : List D} : SqL K H a xs → RpAll K H xs ds → Rp K H (.ref a) (.list ds)
  | tup {a : Addr} {xs : List V} {ds : List D} : SqT K H a xs → RpAll K H xs ds → Rp K H (.ref a) (.tuple ds)
inductive RpAll (K : PySem.W.Frag) (H : Hp) : List V → List D → Prop
  | nil : RpAll K H [] []
  | cons {v : V} {vs : List V} {d : D} {ds : List D} : Rp K H v d → RpAll K H vs ds → RpAll K H (v :: vs) (d :: ds)
end
theorem rd_mono {H H' : Hp} {a : Addr} {u : HO} (h : ∀ a o, H a = some o → H' a = some o) (hs : Rd H a u) : Rd H' a u := by
  rcases hs with e | ⟨o, e⟩
  · exact .inl (h _ _ e)
  · exact .inr ⟨o, h _ _ e⟩
theorem sqt_mono {K : PySem.W.Frag} {H H' : Hp} {a : Addr} {xs : List V} (h : ∀ a o, H a = some o → H' a = some o) (hs : SqT K H a xs) : SqT K H' a xs := by
  rcases hs with e | e
  · exact .inl (rd_mono h e)
  · exact .inr e
theorem sql_mono {K : PySem.W.Frag} {H H' : Hp} {a : Addr} {xs : List V} (h : ∀ a o, H a = some o → H' a = some o) (hs : SqL K H a xs) : SqL K H' a xs := by
  rcases hs with e | e
  · exact .inl (rd_mono h e)
  · exact .inr e
mutual
theorem Rp.mono {K : PySem.W.Frag} {H H' : Hp} (h : ∀ a o, H a = some o → H' a = some o) : ∀ {v : V} {d : D}, Rp K H v d → Rp K H' v d
  | _, _, .non => .non
  | _, _, .bl b => .bl b
  | _, _, .int i => .int i
  | _, _, .str x => .str x
  | _, _, .lst hs ha => .lst (sql_mono h hs) (RpAll.mono h ha)
  | _, _, .tup hs ha => .tup (sqt_mono h hs) (RpAll.mono h ha)
theorem RpAll.mono {K : PySem.W.Frag} {H H' : Hp} (h : ∀ a o, H a = some o → H' a = some o) : ∀ {vs : List V} {ds : List D}, RpAll K H vs ds → RpAll K H' vs ds
  | _, _, .nil => .nil
  | _, _, .cons a b => .cons (Rp.mono h a) (RpAll.mono h b)
end
mutual
theorem Rp.dp {K : PySem.W.Frag} {H : Hp} : ∀ {v : V} {d : D}, Rp K H v d → Dp K H v d
  | _, _, .non => .non
  | _, _, .bl b => .bl b
  | _, _, .int i => .int i
  | _, _, .str x => .str x
  | _, _, .lst hs ha => .lst hs (RpAll.dp ha)
  | _, _, .tup hs ha => .tup hs (RpAll.dp ha)
theorem RpAll.dp {K : PySem.W.Frag} {H : Hp} : ∀ {vs : List V} {ds : List D}, RpAll K H vs ds → DpAll K H vs ds
  | _, _, .nil => .nil
  | _, _, .cons a b => .cons (Rp.dp a) (RpAll.dp b)
end
section
variable {K : PySem.W.Frag} {H : Hp}
theorem RpAll.length : ∀ {vs : List V} {ds : List D}, RpAll K H vs ds → vs.length = ds.length
  | _, _, .nil => rfl
  | _, _, .cons _ b => by simp [RpAll.length b]
theorem RpAll.get : ∀ {vs : List V} {ds : List D} {i : Nat} {d : D}, RpAll K H vs ds → ds[i]? = some d → ∃ v, vs[i]? = some v ∧ Rp K H v d
  | _, _, _, _, .nil, h => by simp at h
  | _, _, 0, _, .cons a _, h => by
    have e := Option.some.inj h
    subst e
    exact ⟨_, rfl, a⟩
  | _, _, i + 1, d, .cons _ b, h => RpAll.get (i := i) b (by simpa using h)
theorem RpAll.get' : ∀ {vs : List V} {ds : List D} {i : Nat} {v : V}, RpAll K H vs ds → vs[i]? = some v → ∃ d, ds[i]? = some d ∧ Rp K H v d
  | _, _, _, _, .nil, h => by simp at h
  | _, _, 0, _, .cons a _, h => by
    have e := Option.some.inj h
    subst e
    exact ⟨_, rfl, a⟩
  | _, _, i + 1, d, .cons _ b, h => RpAll.get' (i := i) b (by simpa using h)
theorem RpAll.append : ∀ {vs ws : List V} {ds es : List D}, RpAll K H vs ds → RpAll K H ws es → RpAll K H (vs ++ ws) (ds ++ es)
  | _, _, _, _, .nil, h => h
  | _, _, _, _, .cons a b, h => .cons a (RpAll.append b h)
theorem RpAll.take : ∀ {vs : List V} {ds : List D} (n : Nat), RpAll K H vs ds → RpAll K H (vs.take n) (ds.take n)
  | _, _, 0, _ => .nil
  | _, _, _ + 1, .nil => .nil
  | _, _, n + 1, .cons a b => .cons a (RpAll.take n b)
theorem RpAll.drop : ∀ {vs : List V} {ds : List D} (n : Nat), RpAll K H vs ds → RpAll K H (vs.drop n) (ds.drop n)
  | _, _, 0, h => h
  | _, _, _ + 1, .nil => .nil
  | _, _, n + 1, .cons _ b => RpAll.drop n b
theorem RpAll.set {v : V} {d : D} (r : Rp K H v d) : ∀ {vs : List V} {ds : List D} (i : Nat), RpAll K H vs ds → RpAll K H (vs.set i v) (ds.set i d)
  | _, _, _, .nil => .nil
  | _, _, 0, .cons _ t => .cons r t
  | _, _, i + 1, .cons q t => .cons q (RpAll.set r i t)
theorem RpAll.reverse : ∀ {vs : List V} {ds : List D}, RpAll K H vs ds → RpAll K H vs.reverse ds.reverse
  | _, _, .nil => .nil
  | _, _, .cons a b => by
    rw [List.reverse_cons, List.reverse_cons]
    exact RpAll.append (RpAll.reverse b) (.cons a .nil)
theorem RpAll.eraseIdx : ∀ {vs : List V} {ds : List D} (i : Nat), RpAll K H vs ds → RpAll K H (vs.eraseIdx i) (ds.eraseIdx i)
  | _, _, _, .nil => .nil
  | _, _, 0, .cons _ t => t
  | _, _, i + 1, .cons q t => .cons q (RpAll.eraseIdx i t)
theorem RpAll.dropLast {vs : List V} {ds : List D} (h : RpAll K H vs ds) : RpAll K H vs.dropLast ds.dropLast := by
  rw [List.dropLast_eq_take, List.dropLast_eq_take, h.length]
  exact h.take _
end

/-! ### the heap without some addresses -/
def wo (Z : List Addr) (H : Hp) : Hp := fun a => if a ∈ Z then none else H a
theorem wo_some {Z : List Addr} {H : Hp} {a : Addr} {o : HO} : wo Z H a = some o ↔ a ∉ Z ∧ H a = some o := by
  unfold wo
  by_cases h : a ∈ Z
  · simp [h]
  · simp [h]
theorem wo_sub {Z : List Addr} {H : Hp} : ∀ a o, wo Z H a = some o → H a = some o := fun a o h => (wo_some.mp h).2
theorem wo_nil {H : Hp} : wo [] H = H := by
  funext a
  simp [wo]

/-! ### what a slot holds; what an expression comes to -/
inductive T where
  | val (d : D)
  /-- a list of this frame's own (or lent to it: the tag is the parameter's place) -/
  | lst (tag : Option Nat) (ds : List D)
def T.view : T → D
  | .val d => d
  | .lst _ ds => .list ds
abbrev Rho := List (Option T)
inductive R where
  | slot (i : Nat)
  | tmp (t : T)
/-- an exception: its class by name, its own fields -/
structure XD where
  cls : Str
  fs : List (Str × D)
inductive Out (α : Type) where
  | ok (a : α) (ρ : Rho)
  | exc (x : XD) (ρ : Rho)
  | bad
abbrev M (α : Type) : Type := Rho → Out α
def M.ret {α : Type} (a : α) : M α := fun ρ => .ok a ρ
def M.bad {α : Type} : M α := fun _ => .bad
def M.bind {α β : Type} (m : M α) (k : α → M β) : M β := fun ρ => match m ρ with
  | .ok a ρ' => k a ρ'
  | .exc x ρ' => .exc x ρ'
  | .bad => .bad
def M.opt {α : Type} : Option α → M α
  | some a => .ret a
  | none => .bad

inductive RepT (K : PySem.W.Frag) (Z : List Addr) (H : Hp) : V → T → List Addr → Prop where
  | val {v : V} {d : D} : Rp K (wo Z H) v d → RepT K Z H v (.val d) []
  | lst {a : Addr} {vs : List V} {tag : Option Nat} {ds : List D} : a ∈ Z → H a = some (.lst vs) → RpAll K (wo Z H) vs ds → RepT K Z H (.ref a) (.lst tag ds) [a]
theorem RepT.keep {K : PySem.W.Frag} {Z Z' : List Addr} {H H' : Hp} {v : V} {t : T} {F : List Addr} (r : RepT K Z H v t F) (hf : ∀ a o, wo Z H a = some o → wo Z' H' a = some o)
    (hF : ∀ a ∈ F, a ∈ Z' ∧ H' a = H a) : RepT K Z' H' v t F := by
  cases r with
  | val h => exact .val (Rp.mono hf h)
  | lst h1 h2 h3 =>
    obtain ⟨q1, q2⟩ := hF _ (List.mem_singleton.mpr rfl)
    exact .lst q1 (by rw [q2]; exact h2) (RpAll.mono hf h3)
theorem RepT.in {K : PySem.W.Frag} {Z : List Addr} {H : Hp} {v : V} {t : T} {F : List Addr} (r : RepT K Z H v t F) : ∀ a ∈ F, a ∈ Z ∧ ∃ o, H a = some o := by
  cases r with
  | val h => intro a h; cases h
  | lst h1 h2 h3 =>
    intro a h
    rw [List.mem_singleton.mp h]
    exact ⟨h1, _, h2⟩

/-- the frame's slots: P protected (the callers' own lists), A the arguments, O this frame's own lists -/
structure EnvR (K : PySem.W.Frag) (P : List Addr) (A : List V) (O : List Addr) (H : Hp) (σ : L2.St) (ρ : Rho) : Prop where
  len : ρ.length = σ.length
  at_ : ∃ Fs : Nat → List Addr, (∀ (i : Nat) (t : T), ρ[i]? = some (some t) → ∃ v, σ[i]? = some (some v) ∧ RepT K (O ++ P) H v t (Fs i) ∧ ∀ a ∈ Fs i, a ∈ O) ∧ ∀ i j, i ≠ j → ∀ a ∈ Fs i, a ∉ Fs j
  prot : ∀ a ∈ P, a ∉ O ∧ ∃ o, H a = some o
  trk : ∀ a ∈ O, ∃ o, H a = some o
  tag : ∀ (i k : Nat) (ds : List D), ρ[i]? = some (some (T.lst (some k) ds)) → ∃ v, σ[i]? = some (some v) ∧ A[k]? = some v
/-- a value handed on: a slot's own list, or a thing of no slot (a new list is nobody's yet: F its address) -/
def RR (K : PySem.W.Frag) (P F O : List Addr) (H : Hp) (σ : L2.St) (v : V) : R → Prop
  | .slot i => σ[i]? = some (some v)
  | .tmp t => RepT K (F ++ (O ++ P)) H v t F ∧ (∀ a ∈ F, a ∉ P) ∧ ∀ (k : Nat) (ds : List D), t ≠ T.lst (some k) ds
structure Step (O : List Addr) (H : Hp) (O' : List Addr) (H' : Hp) : Prop where
  own : ∀ a ∈ O', a ∈ O ∨ H a = none
  ext : ∀ a o, a ∉ O → H a = some o → H' a = some o
  stay : ∀ a o, H a = some o → ∃ o', H' a = some o'
theorem Step.refl (O : List Addr) (H : Hp) : Step O H O H := ⟨fun _ h => .inl h, fun _ _ _ h => h, fun _ o h => ⟨o, h⟩⟩
theorem Step.less {F O O' : List Addr} {H H' : Hp} (s : Step O H (F ++ O') H') : Step O H O' H' := ⟨fun a h => s.own a (List.mem_append_right _ h), s.ext, s.stay⟩
theorem Step.gone {O O' : List Addr} {H H' : Hp} (s : Step O H O' H') {a : Addr} (h : H' a = none) : H a = none := by
  cases e : H a with
  | none => rfl
  | some o =>
    obtain ⟨o', q⟩ := s.stay a o e
    rw [h] at q
    cases q
theorem Step.trans {O O1 O2 : List Addr} {H H1 H2 : Hp} (a : Step O H O1 H1) (b : Step O1 H1 O2 H2) : Step O H O2 H2 where
  own := fun x hx => by
    by_cases h0 : x ∈ O
    · exact .inl h0
    · rcases b.own x hx with h | h
      · exact a.own x h
      · cases e : H x with
        | none => exact .inr rfl
        | some o =>
          have := a.ext x o h0 e
          rw [h] at this
          cases this
  ext := fun x o h e => b.ext x o (fun h1 => by
    rcases a.own x h1 with q | q
    · exact h q
    · rw [q] at e
      cases e) (a.ext x o h e)
  stay := fun x o e => let ⟨o1, e1⟩ := a.stay x o e; b.stay x o1 e1
/-- the first part's new lists, then the second's -/
theorem Step.transF {O F1 O1 F2 O2 : List Addr} {H H1 H2 : Hp} (a : Step O H (F1 ++ O1) H1) (b : Step O1 H1 (F2 ++ O2) H2) : Step O H ((F2 ++ F1) ++ O2) H2 where
  own := fun x hx => by
    rcases List.mem_append.mp hx with z | z
    · rcases List.mem_append.mp z with z | z
      · rcases b.own x (List.mem_append_left _ z) with y | y
        · exact a.own x (List.mem_append_right _ y)
        · exact .inr (a.gone y)
      · exact a.own x (List.mem_append_left _ z)
    · rcases b.own x (List.mem_append_right _ z) with y | y
      · exact a.own x (List.mem_append_right _ y)
      · exact .inr (a.gone y)
  ext := (a.less.trans b.less).ext
  stay := (a.less.trans b.less).stay
section
variable {K : PySem.W.Frag} {P O O' : List Addr} {A : List V} {H H' : Hp} {σ : L2.St} {ρ : Rho} {v : V}
theorem Step.wo (s : Step O H O' H') (hP : ∀ a ∈ P, a ∉ O ∧ ∃ o, H a = some o) : ∀ a o, wo (O ++ P) H a = some o → DL.wo (O' ++ P) H' a = some o := fun a o e => by
  obtain ⟨h1, h2⟩ := wo_some.mp e
  rw [List.mem_append, not_or] at h1
  refine wo_some.mpr ⟨?_, s.ext a o h1.1 h2⟩
  rw [List.mem_append, not_or]
  refine ⟨fun z => ?_, h1.2⟩
  rcases s.own a z with q | q
  · exact h1.1 q
  · rw [q] at h2
    cases h2
theorem Step.woF (s : Step O H O' H') {F : List Addr} (hF : ∀ a ∈ F, a ∉ O ∧ ∃ o, H a = some o) : ∀ a o, DL.wo (F ++ (O ++ P)) H a = some o → DL.wo (F ++ (O' ++ P)) H' a = some o := fun a o e => by
  obtain ⟨h1, h2⟩ := wo_some.mp e
  simp only [List.mem_append, not_or] at h1
  refine wo_some.mpr ⟨?_, s.ext a o h1.2.1 h2⟩
  simp only [List.mem_append, not_or]
  refine ⟨h1.1, fun z => ?_, h1.2.2⟩
  rcases s.own a z with q | q
  · exact h1.2.1 q
  · rw [q] at h2
    cases h2
theorem RR.step {r : R} {F : List Addr} (h : RR K P F O H σ v r) (s : Step O H O' H') (hF : ∀ a ∈ F, a ∉ O) : RR K P F O' H' σ v r := by
  cases r with
  | slot i => exact h
  | tmp t =>
    obtain ⟨h1, h2, h3⟩ := h
    have hF' : ∀ a ∈ F, a ∉ O ∧ ∃ o, H a = some o := fun a ha => ⟨hF a ha, (h1.in a ha).2⟩
    refine ⟨h1.keep (s.woF hF') fun a ha => ?_, h2, h3⟩
    obtain ⟨q, o, e⟩ := hF' a ha
    exact ⟨List.mem_append_left _ ha, by rw [e]; exact s.ext a o q e⟩
end
/-- values in a row: each one's new lists are the others' protected ones -/
inductive RRs (K : PySem.W.Frag) : List Addr → List Addr → Hp → L2.St → List Addr → List V → List R → Prop where
  | nil {P O : List Addr} {H : Hp} {σ : L2.St} : RRs K P O H σ [] [] []
  | cons {P O : List Addr} {H : Hp} {σ : L2.St} {v : V} {vs : List V} {r : R} {rs : List R} {F Fs G : List Addr} : RR K P F O H σ v r → RRs K (F ++ P) O H σ Fs vs rs → G = Fs ++ F → RRs K P O H σ G (v :: vs) (r :: rs)
theorem RRs.step {K : PySem.W.Frag} {O O' : List Addr} {H H' : Hp} {σ : L2.St} (s : Step O H O' H') : ∀ {P Fs : List Addr} {vs : List V} {rs : List R}, RRs K P O H σ Fs vs rs → (∀ a ∈ Fs, a ∉ O) → RRs K P O' H' σ Fs vs rs
  | _, _, _, _, .nil, _ => .nil
  | _, _, _, _, .cons a b e, h => .cons (a.step s fun x hx => h x (by rw [e]; exact List.mem_append_right _ hx)) (b.step s fun x hx => h x (by rw [e]; exact List.mem_append_left _ hx)) e
/-- an exception of this class by name, with these fields -/
def ExR (K : PySem.W.Frag) (mg : Str → Option Value) (Z : List Addr) (H : Hp) (x : XD) (cls : Value) (d : Option Addr) : Prop :=
  mg x.cls = some cls ∧ match d with
  | none => x.fs = []
  | some a => x.fs ≠ [] ∧ ∃ fs : List (Str × V), H a = some (.xd fs) ∧ a ∉ Z ∧ Paired (fun (p : Str × V) (q : Str × D) => p.1 = q.1 ∧ Rp K (wo Z H) p.2 q.2) fs x.fs

/-! ### readings -/
/-- what is wanted behind a computation: rel tells what a value stands for (P protected, F the value's new lists) -/
def Aft {α β : Type} (rel : List Addr → List Addr → List Addr → Hp → β → α → Prop) (K : PySem.W.Frag) (mg : Str → Option Value) (W : WX) (P : List Addr) (A : List V) (σ : L2.St) (O : List Addr) (H : Hp) (o : Out α) (Q : β → Hp → Prop) : Prop :=
  match o with
  | .ok a ρ' => ∀ b H' O' F, EnvR K (F ++ P) A O' H' σ ρ' → rel P F O' H' b a → Step O H (F ++ O') H' → Q b H'
  | .exc x ρ' => ∀ cls d H' O', EnvR K P A O' H' σ ρ' → ExR K mg (O' ++ P) H' x cls d → Step O H O' H' → W cls d σ H'
  | .bad => False
def tG {α β : Type} (rel : PySem.W.Frag → L2.St → List Addr → List Addr → List Addr → Hp → β → α → Prop) (K : PySem.W.Frag) (mg : Str → Option Value) (W : WX) (m : M α) : L2.St → Hp → (β → Hp → Prop) → Prop := fun σ H Q =>
  ∃ P A O ρ, EnvR K P A O H σ ρ ∧ Aft (rel K σ) K mg W P A σ O H (m ρ) Q
abbrev relR : PySem.W.Frag → L2.St → List Addr → List Addr → List Addr → Hp → V → R → Prop := fun K σ P F O H v r => RR K P F O H σ v r
abbrev relRs : PySem.W.Frag → L2.St → List Addr → List Addr → List Addr → Hp → List V → List R → Prop := fun K σ P F O H vs rs => RRs K P O H σ F vs rs
abbrev relB : PySem.W.Frag → L2.St → List Addr → List Addr → List Addr → Hp → Bool → Bool → Prop := fun _ _ _ _ _ _ b c => b = c
abbrev tR := tG relR
abbrev tRs := tG relRs
abbrev tBo := tG relB
theorem EnvR.less {K : PySem.W.Frag} {F P O : List Addr} {A : List V} {H : Hp} {σ : L2.St} {ρ : Rho} (e : EnvR K (F ++ P) A O H σ ρ) : EnvR K P A O H σ ρ where
  len := e.len
  at_ := by
    obtain ⟨Fs, h1, h2⟩ := e.at_
    refine ⟨Fs, fun i t q => ?_, h2⟩
    obtain ⟨v, e1, r, hO⟩ := h1 i t q
    refine ⟨v, e1, r.keep (fun a o z => ?_) fun a ha => ⟨List.mem_append_left _ (hO a ha), rfl⟩, hO⟩
    obtain ⟨z1, z2⟩ := wo_some.mp z
    simp only [List.mem_append, not_or] at z1
    exact wo_some.mpr ⟨by simp only [List.mem_append, not_or]; exact ⟨z1.1, z1.2.2⟩, z2⟩
  prot := fun a ha => e.prot a (List.mem_append_right _ ha)
  trk := e.trk
  tag := e.tag
theorem ExR.less {K : PySem.W.Frag} {mg : Str → Option Value} {Z Z' : List Addr} {H : Hp} {x : XD} {cls : Value} {d : Option Addr} (h : ExR K mg Z H x cls d) (hz : ∀ a, a ∈ Z' → a ∈ Z) : ExR K mg Z' H x cls d := by
  obtain ⟨h1, h2⟩ := h
  refine ⟨h1, ?_⟩
  cases d with
  | none => exact h2
  | some a =>
    obtain ⟨h0, fs, e, n, r⟩ := h2
    exact ⟨h0, fs, e, fun z => n (hz a z), Paired.mapP r fun p q z => ⟨z.1, z.2.mono fun b o y => by
      obtain ⟨y1, y2⟩ := wo_some.mp y
      exact wo_some.mpr ⟨fun w => y1 (hz b w), y2⟩⟩⟩
section
variable {α β : Type} {rel : List Addr → List Addr → List Addr → Hp → β → α → Prop} {K : PySem.W.Frag} {mg : Str → Option Value} {W : WX} {P : List Addr} {A : List V} {σ : L2.St} {O O' : List Addr} {H H' : Hp}
theorem Aft.step {o : Out α} {Q : β → Hp → Prop} (h : Aft rel K mg W P A σ O H o Q) (s : Step O H O' H') : Aft rel K mg W P A σ O' H' o Q := by
  cases o with
  | ok a ρ' => exact fun b H1 O1 F e r t => h b H1 O1 F e r (s.trans t)
  | exc x ρ' => exact fun c d H1 O1 e r t => h c d H1 O1 e r (s.trans t)
  | bad => exact h
theorem Aft.mono {o : Out α} {Q Q' : β → Hp → Prop} (h : Aft rel K mg W P A σ O H o Q) (hq : ∀ b H, Q b H → Q' b H) : Aft rel K mg W P A σ O H o Q' := by
  cases o with
  | ok a ρ' => exact fun b H1 O1 F e r t => hq _ _ (h b H1 O1 F e r t)
  | exc x ρ' => exact h
  | bad => exact h
/-- one part, then the rest; G: the new lists of the parts ahead; s: what was ahead -/
theorem Aft.bindP {α' β' : Type} {rl : List Addr → List Addr → List Addr → Hp → β' → α' → Prop} (G : List Addr) {m : M α'} {k : α' → M α} {ρ : Rho} {Q : β → Hp → Prop} (s : Step O H O' H') (h : Aft rel K mg W P A σ O H (M.bind m k ρ) Q) :
    Aft rl K mg W (G ++ P) A σ O' H' (m ρ) (fun b H1 => ∃ O1 ρ1 a F, EnvR K (F ++ (G ++ P)) A O1 H1 σ ρ1 ∧ rl (G ++ P) F O1 H1 b a ∧ Step O' H' (F ++ O1) H1 ∧ Aft rel K mg W P A σ O H (k a ρ1) Q) := by
  unfold M.bind at h
  cases e : m ρ with
  | ok a ρ1 =>
    rw [e] at h
    exact fun b H1 O1 F q r s => ⟨O1, ρ1, a, F, q, r, s, h⟩
  | exc x ρ1 =>
    rw [e] at h
    exact fun c d H1 O1 q r s1 => h c d H1 O1 q.less (r.less fun a ha => by
      rcases List.mem_append.mp ha with z | z
      · exact List.mem_append_left _ z
      · exact List.mem_append_right _ (List.mem_append_right _ z)) (s.trans s1)
  | bad =>
    rw [e] at h
    exact h
theorem Aft.bind {α' β' : Type} {rl : List Addr → List Addr → List Addr → Hp → β' → α' → Prop} {m : M α'} {k : α' → M α} {ρ : Rho} {Q : β → Hp → Prop} (h : Aft rel K mg W P A σ O H (M.bind m k ρ) Q) :
    Aft rl K mg W P A σ O H (m ρ) (fun b H1 => ∃ O1 ρ1 a F, EnvR K (F ++ P) A O1 H1 σ ρ1 ∧ rl P F O1 H1 b a ∧ Step O H (F ++ O1) H1 ∧ Aft rel K mg W P A σ O H (k a ρ1) Q) := Aft.bindP [] (Step.refl _ _) h
theorem EnvR.off {F : List Addr} {ρ : Rho} (e : EnvR K (F ++ P) A O H σ ρ) : ∀ a ∈ F, a ∉ O := fun a ha => (e.prot a (List.mem_append_left _ ha)).1
end
end DL
namespace L2
open PySem PySem.Spec PyProof.Rows
theorem PE.imp {X : Cx} {e : Expr} {t t' : TE} (h : PE X e t) (q : ∀ σ H Q, t' σ H Q → t σ H Q) : PE X e t' := ⟨fun pins s σ H Q I z => h.run pins s σ H Q I (q σ H Q z)⟩
theorem PT.imp {X : Cx} {e : Expr} {t t' : TT} (h : PT X e t) (q : ∀ σ H Q, t' σ H Q → t σ H Q) : PT X e t' := ⟨fun pins s σ H Q I z => h.run pins s σ H Q I (q σ H Q z)⟩
theorem PA.imp {X : Cx} {e : List Expr} {t t' : TA} (h : PA X e t) (q : ∀ σ H Q, t' σ H Q → t σ H Q) : PA X e t' := ⟨fun pos pins s σ H Q I z => h.run pos pins s σ H Q I (q σ H Q z)⟩
theorem PS.imp {X : Cx} {e : Stmt} {t t' : TS} (h : PS X e t) (q : ∀ D σ H, t' D σ H → t D σ H) : PS X e t' := ⟨fun pins s σ H D I z => h.run pins s σ H D I (q D σ H z)⟩
theorem PSs.imp {X : Cx} {e : List Stmt} {t t' : TS} (h : PSs X e t) (q : ∀ D σ H, t' D σ H → t D σ H) : PSs X e t' := ⟨fun pins s σ H D I z => h.run pins s σ H D I (q D σ H z)⟩
end L2

set_option Elab.async false
set_option maxRecDepth 100000
set_option maxHeartbeats 4000000
namespace DL
open PySem PySem.Spec PyProof.Rows L2
section
variable {K : PySem.W.Frag} {P O : List Addr} {A : List V} {H H' : Hp} {σ : L2.St} {ρ : Rho} {v : V}
theorem wo_le {Z : List Addr} (h : ∀ a o, H a = some o → H' a = some o) : ∀ a o, wo Z H a = some o → wo Z H' a = some o := fun a o e => by
  obtain ⟨h1, h2⟩ := wo_some.mp e
  exact wo_some.mpr ⟨h1, h a o h2⟩
/-- more objects, none changed -/
theorem EnvR.more (e : EnvR K P A O H σ ρ) (h : ∀ a o, H a = some o → H' a = some o) : EnvR K P A O H' σ ρ where
  len := e.len
  at_ := by
    obtain ⟨Fs, h1, h2⟩ := e.at_
    refine ⟨Fs, fun i t q => ?_, h2⟩
    obtain ⟨v, e1, r, hO⟩ := h1 i t q
    refine ⟨v, e1, r.keep (wo_le h) fun a ha => ?_, hO⟩
    obtain ⟨z, o, q'⟩ := r.in a ha
    exact ⟨z, by rw [q', h a o q']⟩
  prot := fun a ha => ⟨(e.prot a ha).1, let ⟨o, q⟩ := (e.prot a ha).2; ⟨o, h a o q⟩⟩
  trk := fun a ha => let ⟨o, q⟩ := e.trk a ha; ⟨o, h a o q⟩
  tag := e.tag
theorem Step.more (h : ∀ a o, H a = some o → H' a = some o) : Step O H O H' := ⟨fun _ q => .inl q, fun a o _ q => h a o q, fun a o q => ⟨o, h a o q⟩⟩
/-- a value just made -/
structure NewT (K : PySem.W.Frag) (Z : List Addr) (H H' : Hp) (v : V) (t : T) : Prop where
  more : ∀ a o, H a = some o → H' a = some o
  rep : ∃ F, RepT K (F ++ Z) H' v t F ∧ ∀ a ∈ F, H a = none
  noTag : ∀ (k : Nat) (ds : List D), t ≠ T.lst (some k) ds
/-- the frame's slots do not know what is new -/
theorem EnvR.new {F : List Addr} (e : EnvR K P A O H σ ρ) (h : ∀ a o, H a = some o → H' a = some o) (hF : ∀ a ∈ F, H a = none ∧ ∃ o, H' a = some o) : EnvR K (F ++ P) A O H' σ ρ where
  len := e.len
  at_ := by
    obtain ⟨Fs, h1, h2⟩ := e.at_
    refine ⟨Fs, fun i t q => ?_, h2⟩
    obtain ⟨v, e1, r, hO⟩ := h1 i t q
    refine ⟨v, e1, r.keep (fun a o z => ?_) fun a ha => ?_, hO⟩
    · obtain ⟨z1, z2⟩ := wo_some.mp z
      refine wo_some.mpr ⟨fun y => z1 ?_, h a o z2⟩
      rcases List.mem_append.mp y with y | y
      · exact List.mem_append_left _ y
      · rcases List.mem_append.mp y with y | y
        · rw [(hF a y).1] at z2
          cases z2
        · exact List.mem_append_right _ y
    · obtain ⟨z, o, q'⟩ := r.in a ha
      exact ⟨List.mem_append_left _ (hO a ha), by rw [q', h a o q']⟩
  prot := fun a ha => by
    rcases List.mem_append.mp ha with z | z
    · refine ⟨fun y => ?_, (hF a z).2⟩
      obtain ⟨o, q⟩ := e.trk a y
      rw [(hF a z).1] at q
      cases q
    · obtain ⟨z1, o, q⟩ := e.prot a z
      exact ⟨z1, o, h a o q⟩
  trk := fun a ha => let ⟨o, q⟩ := e.trk a ha; ⟨o, h a o q⟩
  tag := e.tag
theorem NewT.rr {t : T} (n : NewT K (O ++ P) H H' v t) (e : EnvR K P A O H σ ρ) : ∃ F, EnvR K (F ++ P) A O H' σ ρ ∧ RR K P F O H' σ v (.tmp t) ∧ ∀ a ∈ F, H a = none := by
  obtain ⟨F, r, hF⟩ := n.rep
  refine ⟨F, e.new n.more fun a ha => ⟨hF a ha, (r.in a ha).2⟩, ⟨r, fun a ha z => ?_, n.noTag⟩, hF⟩
  obtain ⟨_, o, q⟩ := e.prot a z
  rw [hF a ha] at q
  cases q
theorem NewT.val {Z : List Addr} {d : D} (h : Rp K (wo Z H) v d) : NewT K Z H H v (.val d) := ⟨fun _ _ q => q, ⟨[], .val h, fun _ q => absurd q (List.not_mem_nil)⟩, fun _ _ q => nomatch q⟩
theorem NewT.scal {Z : List Addr} {d : D} (h : Rp K (fun _ => none) v d) : NewT K Z H H v (.val d) := .val (h.mono fun _ _ q => by cases q)
theorem wo_upd {Z : List Addr} {p : Addr} {o : HO} (h : H p = none) : ∀ a u, wo Z H a = some u → wo (p :: Z) (upd H p o) a = some u := fun a u e => by
  obtain ⟨h1, h2⟩ := wo_some.mp e
  have n : a ≠ p := ne_of_none h2 h
  refine wo_some.mpr ⟨fun z => (List.mem_cons.mp z).elim n h1, ?_⟩
  rw [upd_ne n]
  exact h2
theorem upd_more {p : Addr} {o : HO} (h : H p = none) : ∀ a u, H a = some u → upd H p o a = some u := fun a u e => by
  rw [upd_ne (ne_of_none e h)]
  exact e
theorem NewT.lst {Z : List Addr} {p : Addr} {vs : List V} {ds : List D} (hp : H p = none) (h : RpAll K (wo Z H) vs ds) : NewT K Z H (upd H p (.lst vs)) (.ref p) (.lst none ds) :=
  ⟨upd_more hp, ⟨[p], .lst (List.mem_append_left _ (List.mem_singleton.mpr rfl)) upd_same (h.mono (wo_upd hp)), fun a ha => by rw [List.mem_singleton.mp ha]; exact hp⟩, fun _ _ q => nomatch q⟩
theorem NewT.tup {Z : List Addr} {p : Addr} {vs : List V} {ds : List D} (hp : H p = none) (hz : p ∉ Z) (h : RpAll K (wo Z H) vs ds) : NewT K Z H (upd H p (.tup vs)) (.ref p) (.val (.tuple ds)) :=
  ⟨upd_more hp, ⟨[], .val (.tup (.inl (.inl (wo_some.mpr ⟨hz, upd_same⟩))) (h.mono fun a u e => by
    obtain ⟨h1, h2⟩ := wo_some.mp e
    exact wo_some.mpr ⟨h1, upd_more hp a u h2⟩)), fun _ q => absurd q (List.not_mem_nil)⟩, fun _ _ q => nomatch q⟩

/-- what an operation sees: a thing, or a list whose items are things -/
def VR (K : PySem.W.Frag) (Z : List Addr) (H : Hp) (v : V) (d : D) : Prop := Rp K (wo Z H) v d ∨ ∃ a vs ds, v = .ref a ∧ d = .list ds ∧ H a = some (.lst vs) ∧ RpAll K (wo Z H) vs ds
theorem VR.rp {Z : List Addr} {d : D} (h : VR K Z H v d) : Rp K H v d := by
  rcases h with h | ⟨a, vs, ds, rfl, rfl, e, h⟩
  · exact h.mono wo_sub
  · exact .lst (.inl (.inl e)) (h.mono wo_sub)
theorem VR.more {Z : List Addr} {d : D} (h : VR K Z H v d) (m : ∀ a o, H a = some o → H' a = some o) : VR K Z H' v d := by
  rcases h with h | ⟨a, vs, ds, rfl, rfl, e, h⟩
  · exact .inl (h.mono (wo_le m))
  · exact .inr ⟨a, vs, ds, rfl, rfl, m _ _ e, h.mono (wo_le m)⟩
theorem VR.list {Z : List Addr} {ds : List D} (h : VR K Z H v (.list ds)) : ∃ a vs, v = .ref a ∧ SqL K H a vs ∧ RpAll K (wo Z H) vs ds := by
  rcases h with h | ⟨a, vs, ds, rfl, e0, e, h⟩
  · cases h with
    | lst h1 h2 => exact ⟨_, _, rfl, sql_mono wo_sub h1, h2⟩
  · cases e0
    exact ⟨a, vs, rfl, .inl (.inl e), h⟩
theorem VR.tuple {Z : List Addr} {ds : List D} (h : VR K Z H v (.tuple ds)) : ∃ a vs, v = .ref a ∧ SqT K H a vs ∧ RpAll K (wo Z H) vs ds ∧ Rp K (wo Z H) v (.tuple ds) := by
  rcases h with h | ⟨a, vs, ds, rfl, e0, e, h⟩
  · cases h with
    | tup h1 h2 => exact ⟨_, _, rfl, sqt_mono wo_sub h1, h2, .tup h1 h2⟩
  · cases e0
theorem VR.int {Z : List Addr} {i : Int} (h : VR K Z H v (.int i)) : v = .int i := by
  rcases h with h | ⟨a, vs, ds, rfl, e0, e, h⟩
  · cases h; rfl
  · cases e0
theorem VR.bool {Z : List Addr} {i : Bool} (h : VR K Z H v (.bool i)) : v = .bl i := by
  rcases h with h | ⟨a, vs, ds, rfl, e0, e, h⟩
  · cases h; rfl
  · cases e0
theorem VR.str {Z : List Addr} {i : Str} (h : VR K Z H v (.str i)) : v = .str i := by
  rcases h with h | ⟨a, vs, ds, rfl, e0, e, h⟩
  · cases h; rfl
  · cases e0
theorem VR.none {Z : List Addr} (h : VR K Z H v .none) : v = .non := by
  rcases h with h | ⟨a, vs, ds, rfl, e0, e, h⟩
  · cases h; rfl
  · cases e0
def look (r : R) (ρ : Rho) : Option D := match r with
  | .tmp t => some t.view
  | .slot i => match ρ[i]? with
    | some (some t) => some t.view
    | _ => Option.none
theorem RepT.vr {Z : List Addr} {t : T} {F : List Addr} (r : RepT K Z H v t F) {Z' : List Addr} (hZ : ∀ a, a ∈ Z' → a ∈ Z) : VR K Z' H v t.view := by
  cases r with
  | val h => exact .inl (h.mono fun a o e => by
      obtain ⟨h1, h2⟩ := wo_some.mp e
      exact wo_some.mpr ⟨fun z => h1 (hZ a z), h2⟩)
  | lst h1 h2 h3 => exact .inr ⟨_, _, _, rfl, rfl, h2, h3.mono fun a o e => by
      obtain ⟨h1, h2⟩ := wo_some.mp e
      exact wo_some.mpr ⟨fun z => h1 (hZ a z), h2⟩⟩
theorem look_vr {r : R} {d : D} {F : List Addr} (e : EnvR K P A O H σ ρ) (h : RR K P F O H σ v r) (l : look r ρ = some d) : VR K (O ++ P) H v d := by
  cases r with
  | tmp t =>
    obtain ⟨h1, h2, h3⟩ := h
    have l' : t.view = d := Option.some.inj l
    subst l'
    exact h1.vr fun a ha => List.mem_append_right _ ha
  | slot i =>
    unfold look at l
    simp only at l
    split at l
    · rename_i t q
      have l' : t.view = d := Option.some.inj l
      subst l'
      obtain ⟨Fs, h1, h2⟩ := e.at_
      obtain ⟨w, e1, r1, hO⟩ := h1 i t q
      have e2 : σ[i]? = some (some v) := h
      rw [e1] at e2
      cases e2
      exact r1.vr fun _ h => h
    · cases l
theorem DL_some_inj {α : Type} {a b : α} (h : some a = some b) : a = b := Option.some.inj h
end
theorem RR.less {K : PySem.W.Frag} {F G P O : List Addr} {H : Hp} {σ : L2.St} {v : V} {r : R} (h : RR K (F ++ P) G O H σ v r) : RR K P G O H σ v r := by
  cases r with
  | slot i => exact h
  | tmp t =>
    obtain ⟨h1, h2, h3⟩ := h
    refine ⟨h1.keep (fun a o z => ?_) fun a ha => ⟨List.mem_append_left _ ha, rfl⟩, fun a ha z => h2 a ha (List.mem_append_right _ z), h3⟩
    obtain ⟨z1, z2⟩ := wo_some.mp z
    simp only [List.mem_append, not_or] at z1
    exact wo_some.mpr ⟨by simp only [List.mem_append, not_or]; exact ⟨z1.1, z1.2.1, z1.2.2.2⟩, z2⟩
theorem RR.perm {K : PySem.W.Frag} {P P' O F : List Addr} {H : Hp} {σ : L2.St} {v : V} {r : R} (h : RR K P F O H σ v r) (p : ∀ a, a ∈ P ↔ a ∈ P') : RR K P' F O H σ v r := by
  cases r with
  | slot i => exact h
  | tmp t =>
    obtain ⟨h1, h2, h3⟩ := h
    refine ⟨h1.keep (fun a o z => ?_) fun a ha => ⟨List.mem_append_left _ ha, rfl⟩, fun a ha z => h2 a ha ((p a).mpr z), h3⟩
    obtain ⟨z1, z2⟩ := wo_some.mp z
    simp only [List.mem_append, not_or] at z1
    exact wo_some.mpr ⟨by simp only [List.mem_append, not_or]; exact ⟨z1.1, z1.2.1, fun y => z1.2.2 ((p a).mpr y)⟩, z2⟩
theorem RRs.perm {K : PySem.W.Frag} {O : List Addr} {H : Hp} {σ : L2.St} : ∀ {vs : List V} {rs : List R} {P P' F : List Addr}, RRs K P O H σ F vs rs → (∀ a, a ∈ P ↔ a ∈ P') → RRs K P' O H σ F vs rs
  | _, _, _, _, _, .nil, _ => .nil
  | _, _, _, _, _, .cons a b e, p => .cons (a.perm p) (RRs.perm b fun x => by simp only [List.mem_append, p x]) e
theorem RRs.less {K : PySem.W.Frag} {G : List Addr} {O : List Addr} {H : Hp} {σ : L2.St} : ∀ {vs : List V} {rs : List R} {F P : List Addr}, RRs K (G ++ P) O H σ F vs rs → RRs K P O H σ F vs rs
  | _, _, _, _, .nil => .nil
  | _, _, _, P, .cons (F := F) a b e => .cons a.less (RRs.less (G := G) (b.perm fun x => by simp only [List.mem_append]; constructor <;> (intro h; rcases h with h | h | h <;> simp [h]))) e
/-! ### operations on two things -/
def OpOk (K : PySem.W.Frag) (r : R2) (f : D → D → Option T) : Prop := ∀ (Z : List Addr) (H : Hp) (x y : V) (d e : D) (t : T) (Q : VK), (∀ p, H p = none → p ∉ Z) → VR K Z H x d → VR K Z H y e → f d e = some t →
  (∀ v H', NewT K Z H H' v t → Q v H') → r x y H Q
def op2 (f : D → D → Option T) (ra rb : R) : M R := fun ρ => match look ra ρ, look rb ρ with
  | some x, some y => (match f x y with
    | some t => .ok (.tmp t) ρ
    | none => .bad)
  | _, _ => .bad
section
variable {K : PySem.W.Frag} {mg : Str → Option Value} {W : WX} {P O : List Addr} {A : List V} {H H' : Hp} {σ : L2.St} {ρ : Rho} {v : V}
theorem EnvR.fresh (e : EnvR K P A O H σ ρ) {p : Addr} (h : H p = none) : p ∉ O ++ P := fun z => by
  rcases List.mem_append.mp z with z | z
  · obtain ⟨o, q⟩ := e.trk p z
    rw [h] at q; cases q
  · obtain ⟨_, o, q⟩ := e.prot p z
    rw [h] at q; cases q
/-- the end of an operation that makes t -/
theorem Aft.tmp {t : T} {Q : VK} (h : Aft (relR K σ) K mg W P A σ O H (.ok (.tmp t) ρ) Q) (e : EnvR K P A O H σ ρ) {v : V} {H' : Hp} (n : NewT K (O ++ P) H H' v t) : Q v H' :=
  let ⟨F, e', r, hF⟩ := n.rr e
  h v H' O F e' r ⟨fun a ha => (List.mem_append.mp ha).elim (fun z => .inr (hF a z)) .inl, fun a o _ q => n.more a o q, fun a o q => ⟨o, n.more a o q⟩⟩
theorem op2_ok {r : R2} {f : D → D → Option T} (hf : OpOk K r f) {x y : V} {ra rb : R} {F G : List Addr} {Q : VK} (e : EnvR K P A O H σ ρ) (hx : RR K P F O H σ x ra) (hy : RR K P G O H σ y rb)
    (h : Aft (relR K σ) K mg W P A σ O H (op2 f ra rb ρ) Q) : r x y H Q := by
  unfold op2 at h
  split at h
  · rename_i d d' h1 h2
    split at h
    · rename_i t ht
      exact hf (O ++ P) H x y d d' t Q (fun p hp => e.fresh hp) (look_vr e hx h1) (look_vr e hy h2) ht fun v H' n => h.tmp e n
    · exact h.elim
  · exact h.elim
end
section
variable {X : Cx} {W : WX} {a b c : Expr} {pos : Pos} {ma mb mc : M R}
abbrev JE (X : Cx) (W : WX) (e : Expr) (m : M R) : Prop := PE X e (tR X.K X.mg W m)
abbrev JB (X : Cx) (W : WX) (e : Expr) (m : M Bool) : Prop := PT X e (tBo X.K X.mg W m)
abbrev JEs (X : Cx) (W : WX) (es : List Expr) (m : M (List R)) : Prop := PA X es (tRs X.K X.mg W m)
/-- two things in order, then an operation by values -/
theorem two_of {r : R2} {f : D → D → Option T} (hf : OpOk X.K r f) {σ : L2.St} {H : Hp} {Q : VK} (h : tR X.K X.mg W (M.bind ma fun ra => M.bind mb fun rb => op2 f ra rb) σ H Q) : tOp r (tR X.K X.mg W ma) (tR X.K X.mg W mb) σ H Q := by
  obtain ⟨P, A, O, ρ, e, h⟩ := h
  refine ⟨P, A, O, ρ, e, (Aft.bind (rl := relR X.K σ) h).mono ?_⟩
  rintro x H1 ⟨O1, ρ1, ra, F, e1, r1, s1, h1⟩
  refine ⟨F ++ P, A, O1, ρ1, e1, (Aft.bindP (rl := relR X.K σ) F s1.less h1).mono ?_⟩
  rintro y H2 ⟨O2, ρ2, rb, G, e2, r2, s2, h2⟩
  exact op2_ok hf e2.less.less (r1.step s2.less e1.off) r2.less (h2.step (s1.less.trans s2.less))
theorem j_op {op : Operator} {r : R2} {f : D → D → Option T} (ho : OpR X (binaryOp op) r) (hf : OpOk X.K r f) (ha : JE X W a ma) (hb : JE X W b mb) : JE X W (.BinOp a op b pos) (M.bind ma fun ra => M.bind mb fun rb => op2 f ra rb) :=
  (pe_op ho ha hb).imp fun _ _ _ h => two_of hf h
theorem j_cmp {op : CmpOp} {r : R2} {f : D → D → Option T} (ho : OpR X (compareOp op) r) (hf : OpOk X.K r f) (hm : behindInMarks op b = false) (ha : JE X W a ma) (hb : JE X W b mb) : JE X W (.Compare a [op] [b] pos) (M.bind ma fun ra => M.bind mb fun rb => op2 f ra rb) :=
  (pe_cmpR ho ha hb hm).imp fun _ _ _ h => two_of hf h
/-! ### names, constants -/
def getM (i : Nat) : M R := fun ρ => match ρ[i]? with
  | some (some _) => .ok (.slot i) ρ
  | _ => .bad
theorem j_var {i : Nat} {x : Str} (hN : X.N[i]? = some x) (hv : Vis X.env.scope x) (hd : (x == ("__debug__" : Str)) = false) (hcd : (x == ("__classdict__" : Str)) = false) :
    JE X W (.Name x pos) (getM i) := by
  refine (pe_var (i := i) hN hv hd hcd).imp fun σ H Q h => ?_
  obtain ⟨P, A, O, ρ, e, h⟩ := h
  unfold getM at h
  split at h
  · rename_i t q
    obtain ⟨Fs, h1, h2⟩ := e.at_
    obtain ⟨v, e1, _⟩ := h1 i t q
    exact ⟨v, e1, h v H O [] e e1 (Step.refl _ _)⟩
  · exact h.elim
/-- a constant thing -/
theorem j_const {v : V} {d : D} {x : Expr} (h : PE X x (tC v)) (r : Rp X.K (fun _ => none) v d) : JE X W x (.ret (.tmp (.val d))) := by
  refine h.imp fun σ H Q h => ?_
  obtain ⟨P, A, O, ρ, e, h⟩ := h
  exact Aft.tmp h e (NewT.scal r)
theorem j_int {i j} : JE X W (.Constant (.int i) j pos) (.ret (.tmp (.val (.int i)))) := j_const pe_int (.int i)
theorem j_bl {i j} : JE X W (.Constant (.bool i) j pos) (.ret (.tmp (.val (.bool i)))) := j_const pe_bl (.bl i)
theorem j_non {j} : JE X W (.Constant .none j pos) (.ret (.tmp (.val .none))) := j_const pe_non .non
theorem j_str {i j} : JE X W (.Constant (.str i) j pos) (.ret (.tmp (.val (.str i)))) := j_const pe_str (.str i)
end
end DL

set_option Elab.async false
set_option maxRecDepth 100000
set_option maxHeartbeats 4000000
namespace DL
open PySem PySem.Spec PyProof.Rows L2
/-! ### operators by values, over lists and tuples of any kind -/
section
variable {X : Cx}
def rCat2 (K : PySem.W.Frag) : R2 := fun x y H Q => ∃ l b xs zs, x = .ref l ∧ y = .ref b ∧ SqL K H l xs ∧ SqL K H b zs ∧ xs.length + zs.length ≤ sizeLine ∧ ∀ p, H p = none → Q (.ref p) (upd H p (.lst (xs ++ zs)))
theorem op_cat2 : OpR X (binaryOp .Add) (rCat2 X.K) := by
  intro pins s σ H x y v u Q I rx ry h
  obtain ⟨l, b, xs, zs, rfl, rfl, hH, hB, hz, q⟩ := h
  cases rx
  cases ry
  obtain ⟨its, r, ⟨⟨oc, od, odt, osl⟩, n, e, c1, c2, c3⟩, z⟩ := I.list hH
  obtain ⟨its2, r2, ⟨⟨oc2, od2, odt2, osl2⟩, n2, e2, c4, c5, c6⟩, z2⟩ := I.list hB
  simp only at c1 c2 c3 c4 c5 c6
  subst c1 c2 c3 c4 c5 c6
  have hl := r.length
  have hl2 := r2.length
  refine concat_meets ⟨_, e, rfl⟩ ⟨_, e2, rfl⟩ noFill_list_add seq_list_add F.slot_list_add F.entry_list_add (F.args_list_add_2 _ _) (list_addW l b _ _ n n2 none none _ _ (by rw [List.size_toArray, List.size_toArray]; omega)) ⟨e, e2, ?_⟩
  have ea : its.toArray ++ its2.toArray = (its ++ its2).toArray := by simp
  rw [ea]
  exact ⟨.ref _, _, I.lnew (t' := s.toks) (r.append r2) (by rw [List.length_append]; omega), rfl, q _ I.fresh⟩
abbrev rAddS : R2 := fun x y H Q => ∃ i j, x = .str i ∧ y = .str j ∧ i.length + j.length ≤ sizeLine ∧ Q (.str (i ++ j)) H
abbrev rAddI : R2 := rI0 fun i j => .int (i + j)
def rAddD (K : PySem.W.Frag) : R2 := fun x y H Q => rAddI x y H Q ∨ (rAddS x y H Q ∨ (rCat2 K x y H Q ∨ rCatA K x y H Q))
theorem op_addD : OpR X (binaryOp .Add) (rAddD X.K) := op_add.or (op_add_str.or (op_cat2.or op_catA))
end
def fAdd : D → D → Option T
  | .int i, .int j => some (.val (.int (i + j)))
  | .str x, .str y => if x.length + y.length ≤ sizeLine then some (.val (.str (x ++ y))) else none
  | .list xs, .list ys => if xs.length + ys.length ≤ sizeLine then some (.lst none (xs ++ ys)) else none
  | .tuple xs, .tuple ys => if xs.length + ys.length ≤ sizeLine then some (.val (.tuple (xs ++ ys))) else none
  | _, _ => none
theorem add_ok {K : PySem.W.Frag} : OpOk K (rAddD K) fAdd := by
  intro Z H x y d e t Q hz hx hy hf q
  unfold fAdd at hf
  split at hf
  · cases hf
    cases hx.int
    cases hy.int
    exact .inl ⟨_, _, rfl, rfl, q _ _ (NewT.scal (.int _))⟩
  · split at hf
    · rename_i h
      cases hf
      cases hx.str
      cases hy.str
      exact .inr (.inl ⟨_, _, rfl, rfl, h, q _ _ (NewT.scal (.str _))⟩)
    · cases hf
  · split at hf
    · rename_i h
      cases hf
      obtain ⟨a, vs, rfl, h1, h2⟩ := hx.list
      obtain ⟨b, ws, rfl, h3, h4⟩ := hy.list
      exact .inr (.inr (.inl ⟨a, b, vs, ws, rfl, rfl, h1, h3, by rw [h2.length, h4.length]; exact h, fun p hp => q _ _ (NewT.lst hp (h2.append h4))⟩))
    · cases hf
  · split at hf
    · rename_i h
      cases hf
      obtain ⟨a, vs, rfl, h1, h2, h5⟩ := hx.tuple
      obtain ⟨b, ws, rfl, h3, h4, h6⟩ := hy.tuple
      refine .inr (.inr (.inr ⟨a, b, vs, ws, rfl, rfl, h1, h3, by rw [h2.length, h4.length]; exact h, fun e0 => ?_, fun _ e0 => ?_, fun _ _ p hp => q _ _ (NewT.tup hp (hz p hp) (h2.append h4))⟩))
      · subst e0
        cases h2
        exact q _ _ (NewT.val h6)
      · subst e0
        cases h4
        rw [List.append_nil] at q
        exact q _ _ (NewT.val h5)
    · cases hf
  · cases hf
/-- operators of two ints -/
def fInt (C : Int → Int → Bool) (g : Int → Int → D) : D → D → Option T
  | .int i, .int j => if C i j then some (.val (g i j)) else none
  | _, _ => none
theorem int_ok {K : PySem.W.Frag} {C : Int → Int → Prop} {B : Int → Int → Bool} {g : Int → Int → V} {f : Int → Int → D} (hB : ∀ i j, B i j = true → C i j) (hg : ∀ i j, Rp K (fun _ => none) (g i j) (f i j)) : OpOk K (rI C g) (fInt B f) := by
  intro Z H x y d e t Q hz hx hy hf q
  unfold fInt at hf
  split at hf
  · split at hf
    · rename_i h
      cases hf
      cases hx.int
      cases hy.int
      exact ⟨_, _, rfl, rfl, hB _ _ h, q _ _ (NewT.scal (hg _ _))⟩
    · cases hf
  · cases hf
theorem int0_ok {K : PySem.W.Frag} {g : Int → Int → V} {f : Int → Int → D} (hg : ∀ i j, Rp K (fun _ => none) (g i j) (f i j)) : OpOk K (rI0 g) (fInt (fun _ _ => true) f) := by
  intro Z H x y d e t Q hz hx hy hf q
  unfold fInt at hf
  split at hf
  · rw [if_pos rfl] at hf
    cases hf
    cases hx.int
    cases hy.int
    exact ⟨_, _, rfl, rfl, q _ _ (NewT.scal (hg _ _))⟩
  · cases hf
def bMul (i j : Int) : Bool := decide (i.natAbs.log2 + j.natAbs.log2 < 1000000)
def bDiv (_ j : Int) : Bool := decide (0 < j) && decide (j.natAbs.log2 < 9000)
def bMod (_ j : Int) : Bool := decide (j ≠ 0)
def bPow (i j : Int) : Bool := decide (0 ≤ j) && decide ((Builtin.Int.intBits i : Int) * j ≤ 2 ^ 27)
def CPowW (i j : Int) : Prop := 0 ≤ j ∧ (Builtin.Int.intBits i : Int) * j ≤ 2 ^ 27
theorem op_powW {X : Cx} : OpR X (binaryOp .Pow) (rI CPowW fun i j => .int (i ^ j.toNat)) := opI fun _ _ _ _ _ _ _ hc q => pow_int hc.1 hc.2 q
/-- // by a number of any sign -/
def CDivZ (_ j : Int) : Prop := j ≠ 0 ∧ j.natAbs.log2 < 9000
theorem op_fdivZ {X : Cx} : OpR X (binaryOp .FloorDiv) (rI CDivZ fun i j => .int (i.fdiv j)) := opI fun i j _ _ _ _ _ hc q => floordiv_int hc.1 q (.inl (PyProof.noPylong_of_log2 hc.2))
def bDivZ (_ j : Int) : Bool := decide (j ≠ 0) && decide (j.natAbs.log2 < 9000)
def fSub : D → D → Option T := fInt (fun _ _ => true) fun i j => .int (i - j)
def fMulI : D → D → Option T := fInt bMul fun i j => .int (i * j)
def fDiv : D → D → Option T := fInt bDivZ fun i j => .int (i.fdiv j)
def fMod : D → D → Option T := fInt bMod fun i j => .int (i.fmod j)
def fPow : D → D → Option T := fInt bPow fun i j => .int (i ^ j.toNat)
theorem sub_ok {K : PySem.W.Frag} : OpOk K (rI0 fun i j => .int (i - j)) fSub := int0_ok fun _ _ => .int _
theorem mulI_ok {K : PySem.W.Frag} : OpOk K (rI CMulW fun i j => .int (i * j)) fMulI := int_ok (fun i j h => (show i.natAbs.log2 + j.natAbs.log2 < 1000000 from of_decide_eq_true h)) fun _ _ => .int _
theorem div_ok {K : PySem.W.Frag} : OpOk K (rI CDivZ fun i j => .int (i.fdiv j)) fDiv := int_ok (fun i j h => by
  obtain ⟨h1, h2⟩ := (Bool.and_eq_true _ _).mp h
  exact ⟨of_decide_eq_true h1, of_decide_eq_true h2⟩) fun _ _ => .int _
theorem mod_ok {K : PySem.W.Frag} : OpOk K (rI (fun _ j => j ≠ 0) fun i j => .int (i.fmod j)) fMod := int_ok (fun i j h => of_decide_eq_true h) fun _ _ => .int _
theorem pow_ok {K : PySem.W.Frag} : OpOk K (rI CPowW fun i j => .int (i ^ j.toNat)) fPow := int_ok (fun i j h => by
  obtain ⟨h1, h2⟩ := (Bool.and_eq_true _ _).mp h
  exact ⟨of_decide_eq_true h1, of_decide_eq_true h2⟩) fun _ _ => .int _
/-! ### order -/
def fCmpI (p : Int → Int → Bool) : D → D → Option T := fInt (fun _ _ => true) fun i j => .bool (p i j)
theorem cmpI_ok {K : PySem.W.Frag} {p : Int → Int → Bool} : OpOk K (rI0 fun i j => .bl (p i j)) (fCmpI p) := int0_ok fun _ _ => .bl _
/-! ### equality -/
def eqS : D → D → Option Bool
  | .none, .none => some true
  | .none, .int _ => some false
  | .int _, .none => some false
  | .none, .bool _ => some false
  | .bool _, .none => some false
  | .none, .str _ => some false
  | .str _, .none => some false
  | .int i, .int j => some (decide (i = j))
  | .bool i, .bool j => some (decide (i = j))
  | .str i, .str j => some (decide (i = j))
  | .int _, .str _ => some false
  | .str _, .int _ => some false
  | .bool _, .str _ => some false
  | .str _, .bool _ => some false
  | _, _ => none
def eqD (x y : D) : Option Bool := match eqS x y with
  | some b => some b
  | none => if SeqAt.shaped x && SeqAt.shaped y then some (PyData.eqv x y) else none
def fEq (x y : D) : Option T := (eqD x y).map fun b => .val (.bool b)
def fNe (x y : D) : Option T := (eqD x y).map fun b => .val (.bool (!b))
theorem eqS_ok {K : PySem.W.Frag} {Z : List Addr} {H : Hp} {x y : V} {d e : D} {b : Bool} (hx : VR K Z H x d) (hy : VR K Z H y e) (h : eqS d e = some b) : scal x y = true ∧ decide (x = y) = b := by
  unfold eqS at h
  split at h
  all_goals first
    | (cases h; cases hx.none; cases hy.none; exact ⟨rfl, by simp⟩)
    | (cases h; cases hx.none; cases hy.int; exact ⟨rfl, by simp⟩)
    | (cases h; cases hx.int; cases hy.none; exact ⟨rfl, by simp⟩)
    | (cases h; cases hx.none; cases hy.bool; exact ⟨rfl, by simp⟩)
    | (cases h; cases hx.bool; cases hy.none; exact ⟨rfl, by simp⟩)
    | (cases h; cases hx.none; cases hy.str; exact ⟨rfl, by simp⟩)
    | (cases h; cases hx.str; cases hy.none; exact ⟨rfl, by simp⟩)
    | (cases h; cases hx.int; cases hy.int; exact ⟨rfl, by simp⟩)
    | (cases h; cases hx.bool; cases hy.bool; exact ⟨rfl, by simp⟩)
    | (cases h; cases hx.str; cases hy.str; exact ⟨rfl, by simp⟩)
    | (cases h; cases hx.int; cases hy.str; exact ⟨rfl, by simp⟩)
    | (cases h; cases hx.str; cases hy.int; exact ⟨rfl, by simp⟩)
    | (cases h; cases hx.bool; cases hy.str; exact ⟨rfl, by simp⟩)
    | (cases h; cases hx.str; cases hy.bool; exact ⟨rfl, by simp⟩)
    | cases h
def rEqX (K : PySem.W.Frag) : R2 := fun x y H Q => rEq x y H Q ∨ rEqD K x y H Q
def rNeX (K : PySem.W.Frag) : R2 := fun x y H Q => rNe x y H Q ∨ rNeD K x y H Q
theorem eq_ok {K : PySem.W.Frag} : OpOk K (rEqX K) fEq := by
  intro Z H x y d e t Q hz hx hy hf q
  unfold fEq at hf
  cases h : eqD d e with
  | none =>
    rw [h] at hf
    cases hf
  | some b =>
    rw [h] at hf
    cases hf
    unfold eqD at h
    cases h1 : eqS d e with
    | some c =>
      rw [h1] at h
      cases h
      obtain ⟨h2, h3⟩ := eqS_ok hx hy h1
      exact .inl ⟨h2, by rw [h3]; exact q _ _ (NewT.scal (.bl _))⟩
    | none =>
      rw [h1] at h
      simp only at h
      split at h
      · rename_i h2
        cases h
        obtain ⟨h3, h4⟩ := (Bool.and_eq_true _ _).mp h2
        exact .inr ⟨d, e, hx.rp.dp, hy.rp.dp, h3, h4, q _ _ (NewT.scal (.bl _))⟩
      · cases h
theorem ne_ok {K : PySem.W.Frag} : OpOk K (rNeX K) fNe := by
  intro Z H x y d e t Q hz hx hy hf q
  unfold fNe at hf
  cases h : eqD d e with
  | none =>
    rw [h] at hf
    cases hf
  | some b =>
    rw [h] at hf
    cases hf
    unfold eqD at h
    cases h1 : eqS d e with
    | some c =>
      rw [h1] at h
      cases h
      obtain ⟨h2, h3⟩ := eqS_ok hx hy h1
      exact .inl ⟨h2, by rw [h3]; exact q _ _ (NewT.scal (.bl _))⟩
    | none =>
      rw [h1] at h
      simp only at h
      split at h
      · rename_i h2
        cases h
        obtain ⟨h3, h4⟩ := (Bool.and_eq_true _ _).mp h2
        exact .inr ⟨d, e, hx.rp.dp, hy.rp.dp, h3, h4, q _ _ (NewT.scal (.bl _))⟩
      · cases h
theorem op_eqX {X : Cx} (hu : X.A.units + 64 < cLine) : OpR X (compareOp .Eq) (rEqX X.K) := op_eq.or (op_eqD hu)
theorem op_neX {X : Cx} (hu : X.A.units + 64 < cLine) : OpR X (compareOp .NotEq) (rNeX X.K) := op_ne.or (op_neD hu)
/-! ### is None -/
def fIs : D → D → Option T
  | .none, .none => some (.val (.bool true))
  | _, .none => some (.val (.bool false))
  | _, _ => none
def fIsNot : D → D → Option T
  | .none, .none => some (.val (.bool false))
  | _, .none => some (.val (.bool true))
  | _, _ => none
theorem VR.non_iff {K : PySem.W.Frag} {Z : List Addr} {H : Hp} {x : V} {d : D} (h : VR K Z H x d) (hd : d ≠ .none) : decide (x = .non) = false := by
  refine decide_eq_false fun e => ?_
  subst e
  rcases h with h | ⟨a, vs, ds, e, _⟩
  · cases h
    exact hd rfl
  · cases e
theorem is_ok {K : PySem.W.Frag} : OpOk K (fun x y H Q => y = .non ∧ Q (.bl (decide (x = .non))) H) fIs := by
  intro Z H x y d e t Q hz hx hy hf q
  unfold fIs at hf
  split at hf
  · cases hf
    cases hx.none
    exact ⟨hy.none, by rw [decide_eq_true rfl]; exact q _ _ (NewT.scal (.bl _))⟩
  · rename_i hd
    cases hf
    exact ⟨hy.none, by rw [hx.non_iff hd]; exact q _ _ (NewT.scal (.bl _))⟩
  · cases hf
theorem isNot_ok {K : PySem.W.Frag} : OpOk K (fun x y H Q => y = .non ∧ Q (.bl (!decide (x = .non))) H) fIsNot := by
  intro Z H x y d e t Q hz hx hy hf q
  unfold fIsNot at hf
  split at hf
  · cases hf
    cases hx.none
    exact ⟨hy.none, by rw [decide_eq_true rfl]; exact q _ _ (NewT.scal (.bl _))⟩
  · rename_i hd
    cases hf
    exact ⟨hy.none, by rw [hx.non_iff hd]; exact q _ _ (NewT.scal (.bl _))⟩
  · cases hf
/-! ### in -/
def flatD : D → Bool
  | .none => true
  | .bool _ => true
  | .int _ => true
  | .str _ => true
  | _ => false
theorem flat_V {K : PySem.W.Frag} {H : Hp} {x : V} {d : D} (h : Rp K H x d) : flatV x = flatD d := by
  cases h <;> rfl
theorem flat_all {K : PySem.W.Frag} {H : Hp} : ∀ {xs : List V} {ds : List D}, RpAll K H xs ds → xs.all flatV = ds.all flatD
  | _, _, .nil => rfl
  | _, _, .cons a b => by rw [List.all_cons, List.all_cons, flat_V a, flat_all b]
theorem eqV_D {K : PySem.W.Frag} {H : Hp} {x y : V} {d e : D} (h : Rp K H x d) (h' : Rp K H y e) (f : flatD d = true) (f' : flatD e = true) : eqV x y = PyData.eqv d e := by
  cases h with
  | lst _ _ => exact absurd (show false = true from f) Bool.false_ne_true
  | tup _ _ => exact absurd (show false = true from f) Bool.false_ne_true
  | _ =>
    cases h' with
    | lst _ _ => exact absurd (show false = true from f') Bool.false_ne_true
    | tup _ _ => exact absurd (show false = true from f') Bool.false_ne_true
    | _ => simp [eqV, PyData.eqv]
theorem inV_D {K : PySem.W.Frag} {H : Hp} {x : V} {d : D} (h : Rp K H x d) (f : flatD d = true) : ∀ {ys : List V} {es : List D}, RpAll K H ys es → es.all flatD = true → inV x ys = es.any fun z => PyData.eqv z d
  | _, _, .nil, _ => rfl
  | _, _, .cons a b, g => by
    rw [List.all_cons, Bool.and_eq_true] at g
    have ih := inV_D h f b g.2
    unfold inV at ih ⊢
    rw [List.any_cons, List.any_cons, eqV_D a h g.1 f, ih]
def inL (d : D) (ds : List D) : Option Bool := if flatD d && ds.all flatD then some (ds.any fun z => PyData.eqv z d) else
  if SeqAt.shaped d && SeqAt.shaped (.list ds) then some (ds.any fun z => PyData.eqv z d) else none
def inD : D → D → Option Bool
  | d, .list ds => inL d ds
  | d, .tuple ds => inL d ds
  | .str x, .str y => some (!(Builtin.Str.occurrences y x 0 y.length 1).isEmpty)
  | _, _ => none
def fIn (x y : D) : Option T := (inD x y).map fun b => .val (.bool b)
def fNotIn (x y : D) : Option T := (inD x y).map fun b => .val (.bool (!b))
def rInS : R2 := fun x y H Q => ∃ i j, x = .str i ∧ y = .str j ∧ Q (.bl (!(Builtin.Str.occurrences j i 0 j.length 1).isEmpty)) H
def rNotInS : R2 := fun x y H Q => ∃ i j, x = .str i ∧ y = .str j ∧ Q (.bl (!(!(Builtin.Str.occurrences j i 0 j.length 1).isEmpty))) H
/-- x in a list or tuple of data -/
def rInDD (K : PySem.W.Frag) (neg : Bool) : R2 := fun x y H Q => ∃ d ds, Dp K H x d ∧ (Dp K H y (.list ds) ∨ Dp K H y (.tuple ds)) ∧ SeqAt.shaped d = true ∧ SeqAt.shaped (.list ds) = true ∧ Q (.bl (if neg then !(ds.any fun z => PyData.eqv z d) else ds.any fun z => PyData.eqv z d)) H
theorem op_inDD {X : Cx} (hu : X.A.units + 65 < cLine) : OpR X (compareOp .In) (rInDD X.K false) := by
  intro pins s σ H x y v u Q I rx ry h
  obtain ⟨d, ds, hd, he, sd, se, q⟩ := h
  obtain ⟨as, r1⟩ := Dp.reads I d x v hd rx
  rcases he with he | he
  · obtain ⟨bs, r2⟩ := Dp.reads I (.list ds) y u he ry
    exact SeqAt.in_list_reads r2 r1 (SeqAt.canLay_of_shaped se) (SeqAt.canLay_of_shaped sd) (room_in_shaped sd hu) ⟨.bl _, H, I, rfl, q⟩
  · obtain ⟨bs, r2⟩ := Dp.reads I (.tuple ds) y u he ry
    exact SeqAt.in_tuple_reads r2 r1 (SeqAt.canLay_of_shaped se) (SeqAt.canLay_of_shaped sd) (room_in_shaped sd hu) ⟨.bl _, H, I, rfl, q⟩
theorem op_notInDD {X : Cx} (hu : X.A.units + 65 < cLine) : OpR X (compareOp .NotIn) (rInDD X.K true) := by
  intro pins s σ H x y v u Q I rx ry h
  obtain ⟨d, ds, hd, he, sd, se, q⟩ := h
  obtain ⟨as, r1⟩ := Dp.reads I d x v hd rx
  rcases he with he | he
  · obtain ⟨bs, r2⟩ := Dp.reads I (.list ds) y u he ry
    exact SeqAt.notIn_list_reads r2 r1 (SeqAt.canLay_of_shaped se) (SeqAt.canLay_of_shaped sd) (room_in_shaped sd hu) ⟨.bl _, H, I, rfl, q⟩
  · obtain ⟨bs, r2⟩ := Dp.reads I (.tuple ds) y u he ry
    exact SeqAt.notIn_tuple_reads r2 r1 (SeqAt.canLay_of_shaped se) (SeqAt.canLay_of_shaped sd) (room_in_shaped sd hu) ⟨.bl _, H, I, rfl, q⟩
def rInX (K : PySem.W.Frag) : R2 := fun x y H Q => rIn K false x y H Q ∨ (rInDD K false x y H Q ∨ rInS x y H Q)
def rNotInX (K : PySem.W.Frag) : R2 := fun x y H Q => rIn K true x y H Q ∨ (rInDD K true x y H Q ∨ rNotInS x y H Q)
theorem op_inX {X : Cx} (hu : X.A.units + 65 < cLine) : OpR X (compareOp .In) (rInX X.K) := op_in_seq.or ((op_inDD hu).or op_in_str)
theorem op_notInX {X : Cx} (hu : X.A.units + 65 < cLine) : OpR X (compareOp .NotIn) (rNotInX X.K) := op_notIn_seq.or ((op_notInDD hu).or op_notin_str)
theorem inL_ok {K : PySem.W.Frag} {Z : List Addr} {H : Hp} {x y : V} {d : D} {ds : List D} {b : Bool} {neg : Bool} {Q : VK} (hx : VR K Z H x d) (hy : (∃ a vs, y = .ref a ∧ (SqL K H a vs ∨ SqT K H a vs) ∧ RpAll K H vs ds) ) (hd : Rp K H y (.list ds) ∨ Rp K H y (.tuple ds))
    (h : inL d ds = some b) (q : Q (.bl (if neg then !b else b)) H) : rIn K neg x y H Q ∨ rInDD K neg x y H Q := by
  unfold inL at h
  split at h
  · rename_i h1
    cases h
    obtain ⟨h2, h3⟩ := (Bool.and_eq_true _ _).mp h1
    obtain ⟨a, vs, rfl, hs, hr⟩ := hy
    refine .inl ⟨a, vs, rfl, hs, by rw [flat_V hx.rp]; exact h2, by rw [flat_all hr]; exact h3, ?_⟩
    rw [inV_D hx.rp h2 hr h3]
    exact q
  · split at h
    · rename_i h1
      cases h
      obtain ⟨h2, h3⟩ := (Bool.and_eq_true _ _).mp h1
      exact .inr ⟨d, ds, hx.rp.dp, hd.elim (fun z => .inl z.dp) (fun z => .inr z.dp), h2, h3, q⟩
    · cases h
theorem in_ok {K : PySem.W.Frag} : OpOk K (rInX K) fIn := by
  intro Z H x y d e t Q hz hx hy hf q
  unfold fIn at hf
  cases h : inD d e with
  | none => rw [h] at hf; cases hf
  | some b =>
    rw [h] at hf
    cases hf
    have q' := q _ _ (NewT.scal (Rp.bl (K := K) b) (Z := Z))
    unfold inD at h
    split at h
    · obtain ⟨a, vs, rfl, h1, h2⟩ := hy.list
      rcases inL_ok (neg := false) (Q := Q) hx ⟨a, vs, rfl, .inl h1, h2.mono wo_sub⟩ (.inl hy.rp) h q' with z | z
      · exact .inl z
      · exact .inr (.inl z)
    · obtain ⟨a, vs, rfl, h1, h2, _⟩ := hy.tuple
      rcases inL_ok (neg := false) (Q := Q) hx ⟨a, vs, rfl, .inr h1, h2.mono wo_sub⟩ (.inr hy.rp) h q' with z | z
      · exact .inl z
      · exact .inr (.inl z)
    · cases h
      exact .inr (.inr ⟨_, _, hx.str, hy.str, q'⟩)
    · cases h
theorem notIn_ok {K : PySem.W.Frag} : OpOk K (rNotInX K) fNotIn := by
  intro Z H x y d e t Q hz hx hy hf q
  unfold fNotIn at hf
  cases h : inD d e with
  | none => rw [h] at hf; cases hf
  | some b =>
    rw [h] at hf
    cases hf
    have q' := q _ _ (NewT.scal (Rp.bl (K := K) (!b)) (Z := Z))
    unfold inD at h
    split at h
    · obtain ⟨a, vs, rfl, h1, h2⟩ := hy.list
      rcases inL_ok (neg := true) (Q := Q) hx ⟨a, vs, rfl, .inl h1, h2.mono wo_sub⟩ (.inl hy.rp) h q' with z | z
      · exact .inl z
      · exact .inr (.inl z)
    · obtain ⟨a, vs, rfl, h1, h2, _⟩ := hy.tuple
      rcases inL_ok (neg := true) (Q := Q) hx ⟨a, vs, rfl, .inr h1, h2.mono wo_sub⟩ (.inr hy.rp) h q' with z | z
      · exact .inl z
      · exact .inr (.inl z)
    · cases h
      exact .inr (.inr ⟨_, _, hx.str, hy.str, q'⟩)
    · cases h
end DL

set_option Elab.async false
set_option maxRecDepth 100000
set_option maxHeartbeats 4000000
namespace DL
open PySem PySem.Spec PyProof.Rows L2
/-! ### a value made a thing: a slot's own list is nobody's own from then on -/
def frz (r : R) : M D := fun ρ => match r with
  | .tmp t => .ok t.view ρ
  | .slot i => match ρ[i]? with
    | some (some (.val d)) => .ok d ρ
    | some (some (.lst none ds)) => .ok (.list ds) (ρ.set i (some (.val (.list ds))))
    | _ => .bad
section
variable {K : PySem.W.Frag} {P O : List Addr} {A : List V} {H H' : Hp} {σ : L2.St} {ρ ρ' : Rho} {v : V}
theorem get_set {α : Type} {l : List α} {i j : Nat} {a b : α} (h : (l.set i a)[j]? = some b) : (j = i ∧ a = b) ∨ (j ≠ i ∧ l[j]? = some b) := by
  by_cases e : i = j
  · subst e
    rw [List.getElem?_set] at h
    simp at h
    exact .inl ⟨rfl, h.2⟩
  · rw [List.getElem?_set_ne e] at h
    exact .inr ⟨fun z => e z.symm, h⟩
theorem set_some {α : Type} {l : List α} {i : Nat} {a b : α} (h : l[i]? = some b) : (l.set i a)[i]? = some a := by
  have := (List.getElem?_eq_some_iff.mp h).1
  simp [this]
/-- slot i's own list is let go -/
theorem EnvR.letGo {i : Nat} {ds : List D} {t0 : Option Nat} (e : EnvR K P A O H σ ρ) (hi : ρ[i]? = some (some (.lst t0 ds))) : ∃ a vs O', σ[i]? = some (some (.ref a)) ∧ H a = some (.lst vs) ∧ a ∈ O ∧ a ∉ O' ∧ (∀ b ∈ O', b ∈ O) ∧ RpAll K (wo (O' ++ P) H) vs ds ∧
    a ∉ P ∧ ∀ d, Rp K (wo (O' ++ P) H) (.ref a) d → EnvR K P A O' H σ (ρ.set i (some (.val d))) := by
  obtain ⟨Fs, h1, h2⟩ := e.at_
  obtain ⟨v, e1, r, hO⟩ := h1 i _ hi
  generalize hF : Fs i = F at r hO
  cases r with
  | @lst a vs _ _ m1 m2 m3 =>
    have haO : a ∈ O := hO a (List.mem_singleton.mpr rfl)
    have haP : a ∉ P := fun z => (e.prot a z).1 haO
    refine ⟨a, vs, O.filter (fun b => decide (b ≠ a)), e1, m2, haO, by simp, fun b hb => (List.mem_filter.mp hb).1, ?_, haP, ?_⟩
    · refine m3.mono fun b o q => ?_
      obtain ⟨q1, q2⟩ := wo_some.mp q
      refine wo_some.mpr ⟨fun z => q1 ?_, q2⟩
      rcases List.mem_append.mp z with z | z
      · exact List.mem_append_left _ (List.mem_filter.mp z).1
      · exact List.mem_append_right _ z
    · intro d hd
      have sub : ∀ b o, wo (O ++ P) H b = some o → wo (O.filter (fun b => decide (b ≠ a)) ++ P) H b = some o := fun b o q => by
        obtain ⟨q1, q2⟩ := wo_some.mp q
        refine wo_some.mpr ⟨fun z => q1 ?_, q2⟩
        rcases List.mem_append.mp z with z | z
        · exact List.mem_append_left _ (List.mem_filter.mp z).1
        · exact List.mem_append_right _ z
      refine ⟨by rw [List.length_set]; exact e.len, ⟨fun j => if j = i then [] else Fs j, fun j t q => ?_, fun j k hjk b hb => ?_⟩, fun b hb => ⟨fun z => (e.prot b hb).1 (List.mem_filter.mp z).1, (e.prot b hb).2⟩, fun b hb => e.trk b (List.mem_filter.mp hb).1, fun j k ds' q => ?_⟩
      · dsimp only
        rcases get_set q with ⟨hj, q'⟩ | ⟨hj, q'⟩
        · subst hj
          cases q'
          rw [if_pos rfl]
          exact ⟨_, e1, .val hd, fun b hb => absurd hb List.not_mem_nil⟩
        · rw [if_neg hj]
          obtain ⟨w, e2, r2, hO2⟩ := h1 j t q'
          have ne : ∀ b ∈ Fs j, b ≠ a := fun b hb z => by
            subst z
            exact h2 j i hj b hb (by rw [hF]; exact List.mem_singleton.mpr rfl)
          refine ⟨w, e2, r2.keep sub fun b hb => ⟨List.mem_append_left _ (List.mem_filter.mpr ⟨hO2 b hb, by simpa using ne b hb⟩), rfl⟩, fun b hb => List.mem_filter.mpr ⟨hO2 b hb, by simpa using ne b hb⟩⟩
      · dsimp only at hb ⊢
        by_cases hj : j = i
        · rw [if_pos hj] at hb
          exact absurd hb List.not_mem_nil
        · rw [if_neg hj] at hb
          by_cases hk : k = i
          · rw [if_pos hk]
            exact List.not_mem_nil
          · rw [if_neg hk]
            exact h2 j k hjk b hb
      · rcases get_set q with ⟨hj, q'⟩ | ⟨hj, q'⟩
        · cases q'
        · exact e.tag j k ds' q'
theorem EnvR.swap {F G : List Addr} (e : EnvR K (F ++ (G ++ P)) A O H σ ρ) : EnvR K (G ++ (F ++ P)) A O H σ ρ where
  len := e.len
  at_ := by
    obtain ⟨Fs, h1, h2⟩ := e.at_
    refine ⟨Fs, fun i t q => ?_, h2⟩
    obtain ⟨v, e1, r, hO⟩ := h1 i t q
    refine ⟨v, e1, r.keep (fun a o z => ?_) fun a ha => ⟨List.mem_append_left _ (hO a ha), rfl⟩, hO⟩
    obtain ⟨z1, z2⟩ := wo_some.mp z
    simp only [List.mem_append, not_or] at z1
    exact wo_some.mpr ⟨by simp only [List.mem_append, not_or]; exact ⟨z1.1, z1.2.2.1, z1.2.1, z1.2.2.2⟩, z2⟩
  prot := fun a ha => e.prot a (by
    simp only [List.mem_append] at ha ⊢
    rcases ha with h | h | h
    · exact .inr (.inl h)
    · exact .inl h
    · exact .inr (.inr h))
  trk := e.trk
  tag := e.tag
theorem EnvR.assoc {F G : List Addr} (e : EnvR K ((F ++ G) ++ P) A O H σ ρ) : EnvR K (F ++ (G ++ P)) A O H σ ρ := by
  rw [← List.append_assoc]
  exact e
/-- Fs: the new lists of the values behind -/
theorem frz_ok2 {r : R} {d : D} {F Fs : List Addr} (e : EnvR K (Fs ++ (F ++ P)) A O H σ ρ) (h : RR K P F O H σ v r) (f : frz r ρ = .ok d ρ') : ∃ O', EnvR K (Fs ++ P) A O' H σ ρ' ∧ Step O H O' H ∧ Rp K (wo (O' ++ P) H) v d := by
  have e0 : EnvR K (Fs ++ P) A O H σ ρ := e.swap.less
  unfold frz at f
  cases r with
  | tmp t =>
    simp only at f
    cases f
    obtain ⟨r1, hF, _⟩ := h
    refine ⟨O, e0, Step.refl _ _, ?_⟩
    cases r1 with
    | val q =>
      rw [List.nil_append] at q
      exact q
    | @lst a vs _ ds m1 m2 m3 =>
      have z2 := hF a (List.mem_singleton.mpr rfl)
      have z1 := e.less.off a (List.mem_singleton.mpr rfl)
      refine .lst (.inl (.inl (wo_some.mpr ⟨fun z => (List.mem_append.mp z).elim z1 z2, m2⟩))) (m3.mono fun b o q => ?_)
      obtain ⟨q1, q2⟩ := wo_some.mp q
      exact wo_some.mpr ⟨fun z => q1 (List.mem_append_right _ z), q2⟩
  | slot i =>
    simp only at f
    split at f
    · rename_i d' q
      cases f
      obtain ⟨Fs, h1, h2⟩ := e0.less.at_
      obtain ⟨w, e1, r1, _⟩ := h1 i _ q
      have e2 : σ[i]? = some (some v) := h
      rw [e1] at e2
      cases e2
      generalize Fs i = F at r1
      cases r1 with
      | val z => exact ⟨O, e0, Step.refl _ _, z⟩
    · rename_i ds q
      cases f
      obtain ⟨a, vs, O', e1, e2, e3, e4, e5, e6, e7, k⟩ := e0.letGo q
      have e8 : σ[i]? = some (some v) := h
      rw [e1] at e8
      cases e8
      have z : Rp K (wo (O' ++ (Fs ++ P)) H) (.ref a) (.list ds) := .lst (.inl (.inl (wo_some.mpr ⟨fun z => (List.mem_append.mp z).elim e4 e7, e2⟩))) e6
      exact ⟨O', k _ z, ⟨fun b hb => .inl (e5 b hb), fun _ _ _ q => q, fun _ o q => ⟨o, q⟩⟩, z.mono fun b o q => by
        obtain ⟨q1, q2⟩ := wo_some.mp q
        simp only [List.mem_append, not_or] at q1
        exact wo_some.mpr ⟨by simp only [List.mem_append, not_or]; exact ⟨q1.1, q1.2.2⟩, q2⟩⟩
    · cases f
theorem frz_ok {r : R} {d : D} {F : List Addr} (e : EnvR K (F ++ P) A O H σ ρ) (h : RR K P F O H σ v r) (f : frz r ρ = .ok d ρ') : ∃ O', EnvR K P A O' H σ ρ' ∧ Step O H O' H ∧ Rp K (wo (O' ++ P) H) v d :=
  frz_ok2 (Fs := []) e h f
theorem frz_noexc {r : R} {x : XD} {ρ'' : Rho} : frz r ρ ≠ .exc x ρ'' := by
  unfold frz
  cases r with
  | tmp t => exact fun z => nomatch z
  | slot i =>
    simp only
    split <;> exact fun z => nomatch z
def frzs : List R → M (List D)
  | [] => .ret []
  | r :: rs => M.bind (frz r) fun d => M.bind (frzs rs) fun ds => .ret (d :: ds)
theorem frzs_ok : ∀ {rs : List R} {vs : List V} {ds : List D} {P F O : List Addr} {ρ ρ' : Rho}, EnvR K (F ++ P) A O H σ ρ → RRs K P O H σ F vs rs → frzs rs ρ = .ok ds ρ' → ∃ O', EnvR K P A O' H σ ρ' ∧ Step O H O' H ∧ RpAll K (wo (O' ++ P) H) vs ds
  | [], _, _, P, _, O, ρ, _, e, .nil, f => by
    cases f
    exact ⟨O, e, Step.refl _ _, .nil⟩
  | r :: rs, _, ds, P, G, O, ρ, ρ', e, .cons (F := F) (Fs := Fs) h1 h2 hG, f => by
    subst hG
    unfold frzs M.bind at f
    cases q : frz r ρ with
    | ok d ρ1 =>
      rw [q] at f
      simp only at f
      obtain ⟨O1, e1, s1, p1⟩ := frz_ok2 (P := P) (F := F) (Fs := Fs) e.assoc h1 q
      cases q2 : frzs rs ρ1 with
      | ok ds2 ρ2 =>
        rw [q2] at f
        cases f
        obtain ⟨O2, e2, s2, p2⟩ := frzs_ok (P := P) (F := Fs) e1 ((h2.less).step s1 (fun a ha => (e.prot a (List.mem_append_left _ (List.mem_append_left _ ha))).1)) q2
        exact ⟨O2, e2, s1.trans s2, .cons (p1.mono (s2.wo e1.less.prot)) p2⟩
      | exc x ρ2 =>
        rw [q2] at f
        cases f
      | bad =>
        rw [q2] at f
        cases f
    | exc x ρ1 =>
      rw [q] at f
      cases f
    | bad =>
      rw [q] at f
      cases f
theorem frzs_noexc : ∀ {rs : List R} {ρ : Rho} {x : XD} {ρ'' : Rho}, frzs rs ρ ≠ .exc x ρ''
  | [], _, _, _ => fun z => nomatch z
  | r :: rs, ρ, x, ρ'' => fun z => by
    unfold frzs M.bind at z
    cases q : frz r ρ with
    | ok d ρ1 =>
      rw [q] at z
      simp only at z
      cases q2 : frzs rs ρ1 with
      | ok ds2 ρ2 => rw [q2] at z; cases z
      | exc x2 ρ2 => exact frzs_noexc q2
      | bad => rw [q2] at z; cases z
    | exc x1 ρ1 => exact frz_noexc q
    | bad =>
      rw [q] at z
      cases z
end
section
variable {α β : Type} {rel : List Addr → List Addr → List Addr → Hp → β → α → Prop} {K : PySem.W.Frag} {mg : Str → Option Value} {W : WX} {P : List Addr} {A : List V} {σ : L2.St} {O O' : List Addr} {H H' : Hp} {ρ : Rho} {v : V}
theorem Aft.frz {r : R} {k : D → M α} {F : List Addr} {Q : β → Hp → Prop} (e : EnvR K (F ++ P) A O H σ ρ) (h : RR K P F O H σ v r) (a : Aft rel K mg W P A σ O H (M.bind (frz r) k ρ) Q) :
    ∃ O' ρ' d, EnvR K P A O' H σ ρ' ∧ Step O H O' H ∧ Rp K (wo (O' ++ P) H) v d ∧ DL.frz r ρ = .ok d ρ' ∧ Aft rel K mg W P A σ O' H (k d ρ') Q := by
  unfold M.bind at a
  cases q : DL.frz r ρ with
  | ok d ρ' =>
    rw [q] at a
    obtain ⟨O', e', s, p⟩ := frz_ok e h q
    exact ⟨O', ρ', d, e', s, p, rfl, Aft.step a s⟩
  | exc x ρ' => exact (frz_noexc q).elim
  | bad =>
    rw [q] at a
    exact a.elim
theorem Aft.frzs {rs : List R} {vs : List V} {k : List D → M α} {F : List Addr} {Q : β → Hp → Prop} (e : EnvR K (F ++ P) A O H σ ρ) (h : RRs K P O H σ F vs rs) (a : Aft rel K mg W P A σ O H (M.bind (frzs rs) k ρ) Q) :
    ∃ O' ρ' ds, EnvR K P A O' H σ ρ' ∧ Step O H O' H ∧ RpAll K (wo (O' ++ P) H) vs ds ∧ Aft rel K mg W P A σ O' H (k ds ρ') Q := by
  unfold M.bind at a
  cases q : DL.frzs rs ρ with
  | ok d ρ' =>
    rw [q] at a
    obtain ⟨O', e', s, p⟩ := frzs_ok e h q
    exact ⟨O', ρ', d, e', s, p, Aft.step a s⟩
  | exc x ρ' => exact (frzs_noexc q).elim
  | bad =>
    rw [q] at a
    exact a.elim
end
/-! ### rows of expressions, tuples, lists -/
section
variable {X : Cx} {W : WX} {a b c e : Expr} {es : List Expr} {pos : Pos} {ma mb mc : M R} {ms : M (List R)}
theorem js_nil : JEs X W [] (.ret []) := pa_nil.imp fun σ H Q h => by
  obtain ⟨P, A, O, ρ, e, h⟩ := h
  exact h [] H O [] e .nil (Step.refl _ _)
theorem js_cons (ha : JE X W a ma) (hr : JEs X W es ms) (hs : starEach (a :: es) X.env = (false, eval a X.env) :: starEach es X.env) : JEs X W (a :: es) (M.bind ma fun r => M.bind ms fun rs => .ret (r :: rs)) := (pa_cons ha hr hs).imp fun σ H Q h => by
  obtain ⟨P, A, O, ρ, e, h⟩ := h
  refine ⟨P, A, O, ρ, e, (Aft.bind (rl := relR X.K σ) h).mono ?_⟩
  rintro x H1 ⟨O1, ρ1, ra, F, e1, r1, s1, h1⟩
  refine ⟨F ++ P, A, O1, ρ1, e1, (Aft.bindP (rl := relRs X.K σ) F s1.less h1).mono ?_⟩
  rintro ys H2 ⟨O2, ρ2, rb, G, e2, r2, s2, h2⟩
  exact h2 (x :: ys) H2 O2 (G ++ F) (by rw [List.append_assoc]; exact e2) (.cons (r1.step s2.less e1.off) r2 rfl) (s1.transF s2)
def mkTup (rs : List R) : M R := M.bind (frzs rs) fun ds => if ds.length ≤ sizeLine then .ret (.tmp (.val (.tuple ds))) else .bad
def mkLst (rs : List R) : M R := M.bind (frzs rs) fun ds => if ds.length ≤ sizeLine then .ret (.tmp (.lst none ds)) else .bad
theorem j_tup {x1} (h : JEs X W es ms) : JE X W (.Tuple es x1 pos) (M.bind ms mkTup) := (pe_tup h).imp fun σ H Q h => by
  obtain ⟨P, A, O, ρ, e, h⟩ := h
  refine ⟨P, A, O, ρ, e, (Aft.bind (rl := relRs X.K σ) h).mono ?_⟩
  rintro xs H1 ⟨O1, ρ1, rs, F, e1, r1, s1, h1⟩
  obtain ⟨O2, ρ2, ds, e2, s2, p2, h2⟩ := Aft.frzs e1 r1 (h1.step s1.less)
  split at h2
  · rename_i hl
    exact ⟨by rw [p2.length]; exact hl, fun p hp => Aft.tmp h2 e2 (NewT.tup hp (e2.fresh hp) p2)⟩
  · exact h2.elim
theorem j_lst (h : JEs X W es ms) : JE X W (.List es pos) (M.bind ms mkLst) := (pe_lst h).imp fun σ H Q h => by
  obtain ⟨P, A, O, ρ, e, h⟩ := h
  refine ⟨P, A, O, ρ, e, (Aft.bind (rl := relRs X.K σ) h).mono ?_⟩
  rintro xs H1 ⟨O1, ρ1, rs, F, e1, r1, s1, h1⟩
  obtain ⟨O2, ρ2, ds, e2, s2, p2, h2⟩ := Aft.frzs e1 r1 (h1.step s1.less)
  split at h2
  · rename_i hl
    exact ⟨by rw [p2.length]; exact hl, fun p hp => Aft.tmp h2 e2 (NewT.lst hp p2)⟩
  · exact h2.elim
/-! ### one thing in, one out -/
def UnOk (K : PySem.W.Frag) (r : V → Hp → VK → Prop) (f : D → Option T) : Prop := ∀ (Z : List Addr) (H : Hp) (x : V) (d : D) (t : T) (Q : VK), (∀ p, H p = none → p ∉ Z) → VR K Z H x d → f d = some t →
  (∀ v H', NewT K Z H H' v t → Q v H') → r x H Q
def op1 (f : D → Option T) (ra : R) : M R := fun ρ => match look ra ρ with
  | some x => (match f x with
    | some t => .ok (.tmp t) ρ
    | none => .bad)
  | _ => .bad
theorem op1_ok {K : PySem.W.Frag} {mg : Str → Option Value} {W : WX} {P O F : List Addr} {A : List V} {H : Hp} {σ : L2.St} {ρ : Rho} {r : V → Hp → VK → Prop} {f : D → Option T} (hf : UnOk K r f) {x : V} {ra : R} {Q : VK} (e : EnvR K P A O H σ ρ) (hx : RR K P F O H σ x ra)
    (h : Aft (relR K σ) K mg W P A σ O H (op1 f ra ρ) Q) : r x H Q := by
  unfold op1 at h
  split at h
  · rename_i d h1
    split at h
    · rename_i t ht
      exact hf (O ++ P) H x d t Q (fun p hp => e.fresh hp) (look_vr e hx h1) ht fun v H' n => h.tmp e n
    · exact h.elim
  · exact h.elim
theorem j_un {op : UnaryOp} {r : V → Hp → VK → Prop} {f : D → Option T} (ho : UnR X (unaryOp op) r) (hf : UnOk X.K r f) (ha : JE X W a ma) : JE X W (.UnaryOp op a pos) (M.bind ma (op1 f)) := (pe_un ho ha).imp fun σ H Q h => by
  obtain ⟨P, A, O, ρ, e, h⟩ := h
  refine ⟨P, A, O, ρ, e, (Aft.bind (rl := relR X.K σ) h).mono ?_⟩
  rintro x H1 ⟨O1, ρ1, ra, F, e1, r1, s1, h1⟩
  exact op1_ok hf e1.less r1 (h1.step s1.less)
def fNeg : D → Option T
  | .int i => some (.val (.int (-i)))
  | _ => none
theorem neg_ok {K : PySem.W.Frag} : UnOk K (rU fun i => .int (-i)) fNeg := by
  intro Z H x d t Q hz hx hf q
  unfold fNeg at hf
  split at hf
  · cases hf
    cases hx.int
    exact ⟨_, rfl, q _ _ (NewT.scal (.int _))⟩
  · cases hf
/-! ### subscripts -/
def fIx : D → D → Option T
  | .list xs, .int i => (atI xs i).map .val
  | .tuple xs, .int i => (atI xs i).map .val
  | .str z, .int i => if z.length ≤ sizeLine then (atI z.cps.toList i).map fun c => .val (.str ⟨#[c]⟩) else none
  | _, _ => none
theorem atI_rp {K : PySem.W.Frag} {H : Hp} {vs : List V} {ds : List D} {i : Int} {d : D} (h : RpAll K H vs ds) (e : atI ds i = some d) : ∃ v, atI vs i = some v ∧ Rp K H v d := by
  unfold atI at e ⊢
  rw [h.length]
  cases q : ixN ds.length i with
  | none => rw [q] at e; cases e
  | some j =>
    rw [q] at e
    exact h.get e
theorem ix_ok {K : PySem.W.Frag} : OpOk K (rIx K) fIx := by
  intro Z H x y d e t Q hz hx hy hf q
  unfold fIx at hf
  split at hf
  · rename_i xs i
    obtain ⟨d', h1, rfl⟩ := Option.map_eq_some_iff.mp hf
    obtain ⟨a, vs, rfl, h2, h3⟩ := hx.list
    obtain ⟨w, h4, h5⟩ := atI_rp h3 h1
    cases hy.int
    exact .inl ⟨a, vs, i, w, rfl, rfl, h2, h4, q _ _ (NewT.val h5)⟩
  · rename_i xs i
    obtain ⟨d', h1, rfl⟩ := Option.map_eq_some_iff.mp hf
    obtain ⟨a, vs, rfl, h2, h3, _⟩ := hx.tuple
    obtain ⟨w, h4, h5⟩ := atI_rp h3 h1
    cases hy.int
    exact .inr (.inl ⟨a, vs, i, w, rfl, rfl, h2, h4, q _ _ (NewT.val h5)⟩)
  · split at hf
    · rename_i z i hl
      obtain ⟨d', h1, rfl⟩ := Option.map_eq_some_iff.mp hf
      cases hx.str
      cases hy.int
      exact .inr (.inr ⟨z, i, d', rfl, rfl, hl, h1, q _ _ (NewT.scal (.str _))⟩)
    · cases hf
  · cases hf
theorem j_ix (ha : JE X W a ma) (hb : JE X W b mb) (hs : PlainIx b) : JE X W (.Subscript a b pos) (M.bind ma fun ra => M.bind mb fun rb => op2 fIx ra rb) := (pe_ix ix_seq ha hb hs).imp fun _ _ _ h => two_of ix_ok h
/-! ### slices -/
def fSl : D → Option Int → Option Int → Option T
  | .list xs, lo, hi => some (.lst none ((xs.drop (HT.sIx xs.length 0 lo)).take (HT.sIx xs.length xs.length hi - HT.sIx xs.length 0 lo)))
  | .tuple xs, lo, hi => some (.val (.tuple ((xs.drop (HT.sIx xs.length 0 lo)).take (HT.sIx xs.length xs.length hi - HT.sIx xs.length 0 lo))))
  | .str z, lo, hi => if z.length ≤ sizeLine then some (.val (.str (Txt.slice z lo hi))) else none
  | _, _, _ => none
def rSlX (K : PySem.W.Frag) : V → Option Int → Option Int → Hp → VK → Prop := fun x lo hi H Q => rSlL K x lo hi H Q ∨ (rSlA K x lo hi H Q ∨ C8.rSlX x lo hi H Q)
theorem sl_any : SlR X (rSlX X.K) := sl_list.or (sl_tupA.or C8.sl_txt)
theorem sl_ok {K : PySem.W.Frag} {Z : List Addr} {H : Hp} {x : V} {d : D} {t : T} {lo hi : Option Int} {Q : VK} (hz : ∀ p, H p = none → p ∉ Z) (hx : VR K Z H x d) (hf : fSl d lo hi = some t) (q : ∀ v H', NewT K Z H H' v t → Q v H') : rSlX K x lo hi H Q := by
  unfold fSl at hf
  split at hf
  · cases hf
    obtain ⟨a, vs, rfl, h2, h3⟩ := hx.list
    refine .inl ⟨a, vs, rfl, h2, fun p hp => q _ _ (NewT.lst hp ?_)⟩
    unfold cutV
    rw [h3.length]
    exact (h3.drop _).take _
  · cases hf
    rename_i xs
    obtain ⟨a, vs, rfl, h2, h3, h4⟩ := hx.tuple
    refine .inr (.inl ⟨a, vs, rfl, h2, fun w => ?_, fun w p hp => q _ _ (NewT.tup hp (hz p hp) ?_)⟩)
    · rw [h3.length] at w
      refine q _ _ (NewT.val ?_)
      rw [w.1, w.2, List.drop_zero, Nat.sub_zero, List.take_length]
      exact h4
    · unfold cutV
      rw [h3.length]
      exact (h3.drop _).take _
  · split at hf
    · rename_i hl
      cases hf
      cases hx.str
      exact .inr (.inr ⟨_, rfl, hl, q _ _ (NewT.scal (.str _))⟩)
    · cases hf
  · cases hf
/-- a part of a slice -/
abbrev relO : PySem.W.Frag → L2.St → List Addr → List Addr → List Addr → Hp → Option Int → Option Int → Prop := fun _ _ _ _ _ _ b c => b = c
abbrev JO (X : Cx) (W : WX) (e : Option Expr) (m : M (Option Int)) : Prop := PO X e (tG relO X.K X.mg W m)
theorem jo_none : JO X W none (.ret none) := ⟨fun pins s σ H Q I h => by
  obtain ⟨P, A, O, ρ, e, h⟩ := h
  exact po_none.run pins s σ H Q I (h none H O [] e rfl (Step.refl _ _))⟩
def asInt (r : R) : M (Option Int) := fun ρ => match look r ρ with
  | some (.int i) => .ok (some i) ρ
  | _ => .bad
theorem jo_some (h : JE X W a ma) : JO X W (some a) (M.bind ma asInt) := ⟨fun pins s σ H Q I h0 => by
  refine (po_some h).run pins s σ H Q I ?_
  obtain ⟨P, A, O, ρ, e, h⟩ := h0
  refine ⟨P, A, O, ρ, e, (Aft.bind (rl := relR X.K σ) h).mono ?_⟩
  rintro x H1 ⟨O1, ρ1, ra, F, e1, r1, s1, h1⟩
  unfold asInt at h1
  split at h1
  · rename_i i q
    have z := look_vr e1.less r1 q
    cases z.int
    exact ⟨i, rfl, h1 _ H1 O1 [] e1.less rfl s1.less⟩
  · exact h1.elim⟩
def opSl (ra : R) (lo hi : Option Int) : M R := fun ρ => match look ra ρ with
  | some x => (match fSl x lo hi with
    | some t => .ok (.tmp t) ρ
    | none => .bad)
  | none => .bad
theorem j_slice {lo hi : Option Expr} {ml mh : M (Option Int)} {p2 : Pos} (ha : JE X W a ma) (hl : JO X W lo ml) (hu : JO X W hi mh) :
    JE X W (.Subscript a (.Slice lo hi none p2) pos) (M.bind ma fun ra => M.bind ml fun l => M.bind mh fun u => opSl ra l u) := (pe_slice sl_any ha hl hu).imp fun σ H Q h => by
  obtain ⟨P, A, O, ρ, e, h⟩ := h
  refine ⟨P, A, O, ρ, e, (Aft.bind (rl := relR X.K σ) h).mono ?_⟩
  rintro x H1 ⟨O1, ρ1, ra, F, e1, r1, s1, h1⟩
  refine ⟨F ++ P, A, O1, ρ1, e1, (Aft.bindP (rl := relO X.K σ) F s1.less h1).mono ?_⟩
  rintro l H2 ⟨O2, ρ2, l', G2, e2, rfl, s2, h2⟩
  refine ⟨F ++ P, A, O2, ρ2, e2.less, (Aft.bindP (rl := relO X.K σ) F (s1.less.trans s2.less) h2).mono ?_⟩
  rintro u H3 ⟨O3, ρ3, u', G3, e3, rfl, s3, h3⟩
  unfold opSl at h3
  split at h3
  · rename_i d q
    split at h3
    · rename_i t ht
      exact sl_ok (fun p hp => e3.less.less.fresh hp) (look_vr e3.less.less ((r1.step s2.less e1.off).step s3.less e2.less.off) q) ht fun v H' n => (h3.step ((s1.less.trans s2.less).trans s3.less)).tmp e3.less.less n
    · exact h3.elim
  · exact h3.elim
/-! ### tests -/
def asB (r : R) : M Bool := fun ρ => match look r ρ with
  | some (.bool b) => .ok b ρ
  | _ => .bad
theorem asB_ok {K : PySem.W.Frag} {mg : Str → Option Value} {W : WX} {P O : List Addr} {A : List V} {H : Hp} {σ : L2.St} {ρ : Rho} {x : V} {r : R} {F : List Addr} {Q : Bool → Hp → Prop} (e : EnvR K P A O H σ ρ) (h : RR K P F O H σ x r) (a : Aft (relB K σ) K mg W P A σ O H (asB r ρ) Q) : ∃ c, x = .bl c ∧ Q c H := by
  unfold asB at a
  split at a
  · rename_i b q
    exact ⟨b, (look_vr e h q).bool, a b H O [] e rfl (Step.refl _ _)⟩
  · exact a.elim
theorem jb_val (ha : JE X W a ma) (he : ∀ whole, isTrue a X.env whole = (do let v ← whole; standAt a.pos; holding [v] (truthy v))) : JB X W a (M.bind ma asB) := (pt_val ha he).imp fun σ H Q h => by
  obtain ⟨P, A, O, ρ, e, h⟩ := h
  refine ⟨P, A, O, ρ, e, (Aft.bind (rl := relR X.K σ) h).mono ?_⟩
  rintro x H1 ⟨O1, ρ1, ra, F, e1, r1, s1, h1⟩
  exact asB_ok e1.less r1 (h1.step s1.less)
theorem jb_cmp {op : CmpOp} {r : R2} {f : D → D → Option T} (ho : OpR X (compareOp op) r) (hf : OpOk X.K r f) (hm : behindInMarks op b = false) (ha : JE X W a ma) (hb : JE X W b mb) :
    JB X W (.Compare a [op] [b] pos) (M.bind (M.bind ma fun ra => M.bind mb fun rb => op2 f ra rb) asB) := (pt_cmpR ho ha hb hm).imp fun σ H Q h => by
  have h' : tR X.K X.mg W (M.bind ma fun ra => M.bind mb fun rb => op2 f ra rb) σ H (fun x H1 => ∃ k, x = .bl k ∧ Q k H1) := by
    obtain ⟨P, A, O, ρ, e, h⟩ := h
    refine ⟨P, A, O, ρ, e, (Aft.bind (rl := relR X.K σ) h).mono ?_⟩
    rintro x H1 ⟨O1, ρ1, ra, F, e1, r1, s1, h1⟩
    exact asB_ok e1.less r1 (h1.step s1.less)
  exact two_of hf h'
def andM (ta tb : M Bool) : M Bool := M.bind ta fun c => if c then tb else .ret false
def orM (ta tb : M Bool) : M Bool := M.bind ta fun c => if c then .ret true else tb
abbrev JW (X : Cx) (W : WX) (e : Expr) (m : M Bool) : Prop := PW X e (tBo X.K X.mg W m)
theorem bind_B {ta : M Bool} {k : Bool → M Bool} {K : PySem.W.Frag} {mg : Str → Option Value} {W : WX} {σ : L2.St} {H : Hp} {Q : Bool → Hp → Prop} (h : tBo K mg W (M.bind ta k) σ H Q) : tBo K mg W ta σ H fun c H1 => tBo K mg W (k c) σ H1 Q := by
  obtain ⟨P, A, O, ρ, e, h⟩ := h
  refine ⟨P, A, O, ρ, e, (Aft.bind (rl := relB K σ) h).mono ?_⟩
  rintro x H1 ⟨O1, ρ1, c, F, e1, rfl, s1, h1⟩
  exact ⟨P, A, O1, ρ1, e1.less, h1.step s1.less⟩
theorem ret_B {c : Bool} {K : PySem.W.Frag} {mg : Str → Option Value} {W : WX} {σ : L2.St} {H : Hp} {Q : Bool → Hp → Prop} (h : tBo K mg W (.ret c) σ H Q) : Q c H := by
  obtain ⟨P, A, O, ρ, e, h⟩ := h
  exact h c H O [] e rfl (Step.refl _ _)
theorem _root_.L2.PW.imp {X : Cx} {e : Expr} {t t' : TT} (h : PW X e t) (q : ∀ σ H Q, t' σ H Q → t σ H Q) : PW X e t' := ⟨fun wh pins s σ H Q I z => h.run wh pins s σ H Q I (q σ H Q z)⟩
variable {ta tb : M Bool} {rest : List Expr}
theorem jw_and1 (ha : JB X W a ta) : JW X W (.BoolOp .And [a] pos) ta := pw_and1 ha
theorem jw_or1 (ha : JB X W a ta) : JW X W (.BoolOp .Or [a] pos) ta := pw_or1 ha
theorem jw_and (ha : JB X W a ta) (hb : JW X W (.BoolOp .And (b :: rest) pos) tb) : JW X W (.BoolOp .And (a :: b :: rest) pos) (andM ta tb) := (pw_and ha hb).imp fun σ H Q h => by
  have h1 := bind_B h
  obtain ⟨P, A, O, ρ, e, h1⟩ := h1
  refine ⟨P, A, O, ρ, e, h1.mono fun c H1 q => ?_⟩
  cases c with
  | true => exact q
  | false => exact ret_B q
theorem jw_or (ha : JB X W a ta) (hb : JW X W (.BoolOp .Or (b :: rest) pos) tb) : JW X W (.BoolOp .Or (a :: b :: rest) pos) (orM ta tb) := (pw_or ha hb).imp fun σ H Q h => by
  have h1 := bind_B h
  obtain ⟨P, A, O, ρ, e, h1⟩ := h1
  refine ⟨P, A, O, ρ, e, h1.mono fun c H1 q => ?_⟩
  cases c with
  | true => exact ret_B q
  | false => exact q
theorem jb_not (ha : JB X W a ta) : JB X W (.UnaryOp .Not a pos) (M.bind ta fun c => .ret (!c)) := (pt_not ha).imp fun σ H Q h => by
  obtain ⟨P, A, O, ρ, e, h⟩ := bind_B h
  exact ⟨P, A, O, ρ, e, h.mono fun c H1 q => ret_B q⟩
/-! ### and, or, not as values; if as an expression -/
def vAnd (ma mb : M R) : M R := M.bind ma fun r => M.bind (asB r) fun c => if c then mb else .ret (.tmp (.val (.bool false)))
def vOr (ma mb : M R) : M R := M.bind ma fun r => M.bind (asB r) fun c => if c then .ret (.tmp (.val (.bool true))) else mb
theorem val_B {m : M R} {k : Bool → M R} {K : PySem.W.Frag} {mg : Str → Option Value} {W : WX} {σ : L2.St} {H : Hp} {Q : VK} (h : tR K mg W (M.bind m fun r => M.bind (asB r) k) σ H Q) :
    tR K mg W m σ H fun x H1 => ∃ c, x = .bl c ∧ tR K mg W (k c) σ H1 Q := by
  obtain ⟨P, A, O, ρ, e, h⟩ := h
  refine ⟨P, A, O, ρ, e, (Aft.bind (rl := relR K σ) h).mono ?_⟩
  rintro x H1 ⟨O1, ρ1, ra, F, e1, r1, s1, h1⟩
  have h2 := Aft.bind (rl := relB K σ) (h1.step s1.less)
  obtain ⟨c, hc, O2, ρ2, c', G, e2, rfl, s2, h3⟩ := asB_ok e1.less r1 h2
  exact ⟨c, hc, P, A, O2, ρ2, e2.less, h3.step s2.less⟩
theorem ret_R {d : D} {v : V} {K : PySem.W.Frag} {mg : Str → Option Value} {W : WX} {σ : L2.St} {H : Hp} {Q : VK} (h : tR K mg W (.ret (.tmp (.val d))) σ H Q) (r : Rp K (fun _ => none) v d) : Q v H := by
  obtain ⟨P, A, O, ρ, e, h⟩ := h
  exact Aft.tmp h e (NewT.scal r)
theorem tR.mono' {m : M R} {K : PySem.W.Frag} {mg : Str → Option Value} {W : WX} {σ : L2.St} {H : Hp} {Q Q' : VK} (h : tR K mg W m σ H Q) (q : ∀ v H, Q v H → Q' v H) : tR K mg W m σ H Q' := by
  obtain ⟨P, A, O, ρ, e, h⟩ := h
  exact ⟨P, A, O, ρ, e, h.mono q⟩
theorem j_and (ha : JE X W a ma) (hb : JE X W (.BoolOp .And (b :: rest) pos) mb) : JE X W (.BoolOp .And (a :: b :: rest) pos) (vAnd ma mb) := (pe_and ha hb).imp fun σ H Q h => by
  refine tR.mono' (val_B h) fun v H1 ⟨c, e, q⟩ => ⟨c, e, ?_⟩
  cases c with
  | true => exact q
  | false => exact ret_R q (.bl false)
theorem j_or (ha : JE X W a ma) (hb : JE X W (.BoolOp .Or (b :: rest) pos) mb) : JE X W (.BoolOp .Or (a :: b :: rest) pos) (vOr ma mb) := (pe_or ha hb).imp fun σ H Q h => by
  refine tR.mono' (val_B h) fun v H1 ⟨c, e, q⟩ => ⟨c, e, ?_⟩
  cases c with
  | true => exact ret_R q (.bl true)
  | false => exact q
theorem j_one {op} (h : JE X W a ma) : JE X W (.BoolOp op [a] pos) ma := pe_one h
theorem j_not (ha : JE X W a ma) : JE X W (.UnaryOp .Not a pos) (M.bind ma fun r => M.bind (asB r) fun c => .ret (.tmp (.val (.bool (!c))))) := (pe_not ha).imp fun σ H Q h => by
  refine tR.mono' (val_B h) fun v H1 ⟨c, e, q⟩ => ⟨c, e, ret_R q (.bl _)⟩
theorem j_ifExp {c : Expr} {tc : M Bool} (hc : JB X W c tc) (ha : JE X W a ma) (hb : JE X W b mb) : JE X W (.IfExp c a b pos) (M.bind tc fun c => if c then ma else mb) := (pe_ifExp hc ha hb).imp fun σ H Q h => by
  obtain ⟨P, A, O, ρ, e, h⟩ := h
  refine ⟨P, A, O, ρ, e, (Aft.bind (rl := relB X.K σ) h).mono ?_⟩
  rintro x H1 ⟨O1, ρ1, c, F, e1, rfl, s1, h1⟩
  cases x with
  | true => exact ⟨P, A, O1, ρ1, e1.less, h1.step s1.less⟩
  | false => exact ⟨P, A, O1, ρ1, e1.less, h1.step s1.less⟩
end
end DL

set_option Elab.async false
set_option maxRecDepth 100000
set_option maxHeartbeats 4000000
namespace DL
open PySem PySem.Spec PyProof.Rows L2
/-! ### slots are stored to -/
section
variable {K : PySem.W.Frag} {P O : List Addr} {A : List V} {H H' : Hp} {σ : L2.St} {ρ ρ' : Rho} {v : V}
/-- slot i is cleared: its own list goes -/
theorem EnvR.clear {i : Nat} (e : EnvR K P A O H σ ρ) (x : Option V) : ∃ O', EnvR K P A O' H (σ.set i x) (ρ.set i none) ∧ (∀ b ∈ O', b ∈ O) := by
  obtain ⟨Fs, h1, h2⟩ := e.at_
  have sub : ∀ b o, wo (O ++ P) H b = some o → wo (O.filter (fun b => decide (b ∉ Fs i)) ++ P) H b = some o := fun b o q => by
    obtain ⟨q1, q2⟩ := wo_some.mp q
    refine wo_some.mpr ⟨fun z => q1 ?_, q2⟩
    rcases List.mem_append.mp z with z | z
    · exact List.mem_append_left _ (List.mem_filter.mp z).1
    · exact List.mem_append_right _ z
  refine ⟨O.filter (fun b => decide (b ∉ Fs i)), ⟨by rw [List.length_set, List.length_set]; exact e.len, ⟨fun j => if j = i then [] else Fs j, fun j t q => ?_, fun j k hjk b hb => ?_⟩,
    fun b hb => ⟨fun z => (e.prot b hb).1 (List.mem_filter.mp z).1, (e.prot b hb).2⟩, fun b hb => e.trk b (List.mem_filter.mp hb).1, fun j k ds' q => ?_⟩, fun b hb => (List.mem_filter.mp hb).1⟩
  · dsimp only
    rcases get_set q with ⟨hj, q'⟩ | ⟨hj, q'⟩
    · cases q'
    · rw [if_neg hj]
      obtain ⟨w, e2, r2, hO2⟩ := h1 j t q'
      have ne : ∀ b ∈ Fs j, b ∉ Fs i := fun b hb => h2 j i hj b hb
      refine ⟨w, by rw [List.getElem?_set_ne (Ne.symm hj)]; exact e2, r2.keep sub fun b hb => ⟨List.mem_append_left _ (List.mem_filter.mpr ⟨hO2 b hb, by simpa using ne b hb⟩), rfl⟩, fun b hb => List.mem_filter.mpr ⟨hO2 b hb, by simpa using ne b hb⟩⟩
  · dsimp only at hb ⊢
    by_cases hj : j = i
    · rw [if_pos hj] at hb
      exact absurd hb List.not_mem_nil
    · rw [if_neg hj] at hb
      by_cases hk : k = i
      · rw [if_pos hk]
        exact List.not_mem_nil
      · rw [if_neg hk]
        exact h2 j k hjk b hb
  · rcases get_set q with ⟨hj, q'⟩ | ⟨hj, q'⟩
    · cases q'
    · obtain ⟨w, e1, e2⟩ := e.tag j k ds' q'
      exact ⟨w, by rw [List.getElem?_set_ne (Ne.symm hj)]; exact e1, e2⟩
/-- a value is put into an empty slot -/
theorem EnvR.fill {i : Nat} {F : List Addr} {t : T} (e : EnvR K (F ++ P) A O H σ ρ) (hi : ρ[i]? = some none) (hv : σ[i]? = some (some v)) (r : RepT K (F ++ (O ++ P)) H v t F) (hP : ∀ a ∈ F, a ∉ P) (ht : ∀ (k : Nat) (ds : List D), t ≠ T.lst (some k) ds) :
    EnvR K P A (F ++ O) H σ (ρ.set i (some t)) := by
  obtain ⟨Fs, h1, h2⟩ := e.at_
  have off := e.off
  refine ⟨by rw [List.length_set]; exact e.len, ⟨fun j => if j = i then F else if (ρ[j]?).join.isSome then Fs j else [], fun j u q => ?_, fun j k hjk b hb => ?_⟩, fun b hb => ⟨fun z => ?_, (e.prot b (List.mem_append_right _ hb)).2⟩, fun b hb => ?_, fun j k ds' q => ?_⟩
  · dsimp only
    rcases get_set q with ⟨hj, q'⟩ | ⟨hj, q'⟩
    · subst hj
      cases q'
      rw [if_pos rfl]
      refine ⟨v, hv, ?_, fun a ha => List.mem_append_left _ ha⟩
      rw [List.append_assoc]
      exact r
    · rw [if_neg hj]
      have hs : (ρ[j]?).join.isSome = true := by rw [q']; rfl
      rw [if_pos hs]
      obtain ⟨w, e2, r2, hO2⟩ := h1 j u q'
      refine ⟨w, e2, r2.keep (fun a o z => ?_) fun b hb => ⟨List.mem_append_left _ (List.mem_append_right _ (hO2 b hb)), rfl⟩, fun b hb => List.mem_append_right _ (hO2 b hb)⟩
      obtain ⟨z1, z2⟩ := wo_some.mp z
      simp only [List.mem_append, not_or] at z1
      exact wo_some.mpr ⟨by simp only [List.mem_append, not_or]; exact ⟨⟨z1.2.1, z1.1⟩, z1.2.2⟩, z2⟩
  · dsimp only at hb ⊢
    have inO : ∀ l, ∀ b ∈ (if (ρ[l]?).join.isSome then Fs l else []), b ∈ O := fun l b hb => by
      split at hb
      · rename_i hs
        cases q : ρ[l]? with
        | none => rw [q] at hs; cases hs
        | some o =>
          cases o with
          | none => rw [q] at hs; cases hs
          | some u =>
            obtain ⟨_, _, _, hO⟩ := h1 l u q
            exact hO b hb
      · exact absurd hb List.not_mem_nil
    by_cases hj : j = i
    · rw [if_pos hj] at hb
      rw [if_neg (fun z => hjk (hj.trans z.symm))]
      exact fun z => off b hb (inO k b z)
    · rw [if_neg hj] at hb
      by_cases hk : k = i
      · rw [if_pos hk]
        exact fun z => off b z (inO j b hb)
      · rw [if_neg hk]
        intro z
        split at hb
        · split at z
          · exact h2 j k hjk b hb z
          · exact absurd z List.not_mem_nil
        · exact absurd hb List.not_mem_nil
  · rcases List.mem_append.mp z with z | z
    · exact hP b z hb
    · exact (e.prot b (List.mem_append_right _ hb)).1 z
  · rcases List.mem_append.mp hb with z | z
    · exact (e.prot b (List.mem_append_left _ z)).2
    · exact e.trk b z
  · rcases get_set q with ⟨hj, q'⟩ | ⟨hj, q'⟩
    · cases q'
      exact (ht k ds' rfl).elim
    · exact e.tag j k ds' q'
theorem EnvR.put {i : Nat} {F : List Addr} {t : T} (e : EnvR K (F ++ P) A O H σ ρ) (hi : i < ρ.length) (r : RR K P F O H σ v (.tmp t)) : ∃ O', EnvR K P A O' H (σ.set i (some v)) (ρ.set i (some t)) ∧ Step O H O' H' = Step O H O' H' ∧ (∀ b ∈ O', b ∈ O ∨ b ∈ F) := by
  obtain ⟨r1, r2, r3⟩ := r
  obtain ⟨O1, e1, s1⟩ := e.clear (i := i) (some v)
  have hn : (ρ.set i none)[i]? = some none := by simp [hi]
  have hs : (σ.set i (some v))[i]? = some (some v) := by
    have := e.len
    simp [show i < σ.length by omega]
  refine ⟨F ++ O1, ?_, rfl, fun b hb => (List.mem_append.mp hb).elim .inr (fun z => .inl (s1 b z))⟩
  have z := e1.fill hn hs (r1.keep (fun a o z => ?_) fun a ha => ⟨List.mem_append_left _ ha, rfl⟩) r2 r3
  · rw [List.set_set] at z
    exact z
  · obtain ⟨z1, z2⟩ := wo_some.mp z
    simp only [List.mem_append, not_or] at z1
    exact wo_some.mpr ⟨by simp only [List.mem_append, not_or]; exact ⟨z1.1, fun y => z1.2.1 (s1 a y), z1.2.2⟩, z2⟩
end
/-! ### statements -/
inductive Fl where
  | nx | bk | ct
  | rt (r : R)
def AftS (K : PySem.W.Frag) (mg : Str → Option Value) (W : WX) (P : List Addr) (A : List V) (O : List Addr) (H : Hp) (o : Out Fl) (D : Ends) : Prop :=
  match o with
  | .ok .nx ρ' => ∀ σ' H' O', EnvR K P A O' H' σ' ρ' → Step O H O' H' → D.nx σ' H'
  | .ok .bk ρ' => ∀ σ' H' O', EnvR K P A O' H' σ' ρ' → Step O H O' H' → D.bk σ' H'
  | .ok .ct ρ' => ∀ σ' H' O', EnvR K P A O' H' σ' ρ' → Step O H O' H' → D.ct σ' H'
  | .ok (.rt r) ρ' => ∀ v σ' H' O' F, EnvR K (F ++ P) A O' H' σ' ρ' → RR K P F O' H' σ' v r → Step O H (F ++ O') H' → D.rt v H'
  | .exc x ρ' => ∀ cls d σ' H' O', EnvR K P A O' H' σ' ρ' → ExR K mg (O' ++ P) H' x cls d → Step O H O' H' → W cls d σ' H'
  | .bad => False
def tS (K : PySem.W.Frag) (mg : Str → Option Value) (W : WX) (m : M Fl) : TS := fun D σ H => ∃ P A O ρ, EnvR K P A O H σ ρ ∧ AftS K mg W P A O H (m ρ) D
abbrev JS (X : Cx) (W : WX) (st : Stmt) (m : M Fl) : Prop := PS X st (tS X.K X.mg W m)
abbrev JSs (X : Cx) (W : WX) (st : List Stmt) (m : M Fl) : Prop := PSs X st (tS X.K X.mg W m)
section
variable {K : PySem.W.Frag} {mg : Str → Option Value} {W : WX} {P : List Addr} {A : List V} {σ : L2.St} {O O' : List Addr} {H H' : Hp} {D D' : Ends}
theorem AftS.step {o : Out Fl} (h : AftS K mg W P A O H o D) (s : Step O H O' H') : AftS K mg W P A O' H' o D := by
  cases o with
  | ok f ρ' =>
    cases f with
    | nx => exact fun σ1 H1 O1 e t => h σ1 H1 O1 e (s.trans t)
    | bk => exact fun σ1 H1 O1 e t => h σ1 H1 O1 e (s.trans t)
    | ct => exact fun σ1 H1 O1 e t => h σ1 H1 O1 e (s.trans t)
    | rt r => exact fun v σ1 H1 O1 F e q t => h v σ1 H1 O1 F e q (s.trans t)
  | exc x ρ' => exact fun c d σ1 H1 O1 e r t => h c d σ1 H1 O1 e r (s.trans t)
  | bad => exact h
/-- an expression, then a statement's rest -/
theorem AftS.bindE {α' β' : Type} {rl : List Addr → List Addr → List Addr → Hp → β' → α' → Prop} (G : List Addr) {m : M α'} {k : α' → M Fl} {ρ : Rho} (s : Step O H O' H') (h : AftS K mg W P A O H (M.bind m k ρ) D) :
    Aft rl K mg W (G ++ P) A σ O' H' (m ρ) (fun b H1 => ∃ O1 ρ1 a F, EnvR K (F ++ (G ++ P)) A O1 H1 σ ρ1 ∧ rl (G ++ P) F O1 H1 b a ∧ Step O' H' (F ++ O1) H1 ∧ AftS K mg W P A O H (k a ρ1) D) := by
  unfold M.bind at h
  cases e : m ρ with
  | ok a ρ1 =>
    rw [e] at h
    exact fun b H1 O1 F q r s => ⟨O1, ρ1, a, F, q, r, s, h⟩
  | exc x ρ1 =>
    rw [e] at h
    exact fun c d H1 O1 q r s1 => h c d σ H1 O1 q.less (r.less fun a ha => by
      rcases List.mem_append.mp ha with z | z
      · exact List.mem_append_left _ z
      · exact List.mem_append_right _ (List.mem_append_right _ z)) (s.trans s1)
  | bad =>
    rw [e] at h
    exact h
theorem AftS.bind1 {α' β' : Type} {rl : List Addr → List Addr → List Addr → Hp → β' → α' → Prop} {m : M α'} {k : α' → M Fl} {ρ : Rho} (h : AftS K mg W P A O H (M.bind m k ρ) D) :
    Aft rl K mg W P A σ O H (m ρ) (fun b H1 => ∃ O1 ρ1 a F, EnvR K (F ++ P) A O1 H1 σ ρ1 ∧ rl P F O1 H1 b a ∧ Step O H (F ++ O1) H1 ∧ AftS K mg W P A O H (k a ρ1) D) := AftS.bindE [] (Step.refl _ _) h
/-- one statement, then the rest -/
def seqM (ma mb : M Fl) : M Fl := M.bind ma fun f => match f with
  | .nx => mb
  | f => .ret f
theorem AftS.seq {ma mb : M Fl} {ρ : Rho} (h : AftS K mg W P A O H (seqM ma mb ρ) D) : AftS K mg W P A O H (ma ρ) { D with nx := fun σ H => ∃ O1 ρ1, EnvR K P A O1 H σ ρ1 ∧ AftS K mg W P A O1 H (mb ρ1) D } := by
  unfold seqM M.bind at h
  cases e : ma ρ with
  | ok f ρ1 =>
    rw [e] at h
    cases f with
    | nx => exact fun σ1 H1 O1 q s => ⟨O1, ρ1, q, AftS.step h s⟩
    | bk => exact h
    | ct => exact h
    | rt r => exact h
  | exc x ρ1 =>
    rw [e] at h
    exact h
  | bad =>
    rw [e] at h
    exact h
end
section
variable {X : Cx} {W : WX} {st : Stmt} {rest : List Stmt} {a b e : Expr} {pos : Pos} {ma mb : M R} {m m1 m2 : M Fl} {tb : M Bool}
theorem jss_nil : JSs X W [] (.ret .nx) := pss_nil.imp fun D σ H h => by
  obtain ⟨P, A, O, ρ, e, h⟩ := h
  exact h σ H O e (Step.refl _ _)
theorem jss_cons (h1 : JS X W st m1) (h2 : JSs X W rest m2) : JSs X W (st :: rest) (seqM m1 m2) := (pss_cons h1 h2).imp fun D σ H h => by
  obtain ⟨P, A, O, ρ, e, h⟩ := h
  refine ⟨P, A, O, ρ, e, ?_⟩
  have z := AftS.seq h
  cases q : m1 ρ with
  | ok f ρ1 =>
    rw [q] at z
    cases f with
    | nx => exact fun σ1 H1 O1 q s => let ⟨O2, ρ2, e2, h2⟩ := z σ1 H1 O1 q s; ⟨P, A, O2, ρ2, e2, h2⟩
    | bk => exact z
    | ct => exact z
    | rt r => exact z
  | exc x ρ1 =>
    rw [q] at z
    exact z
  | bad =>
    rw [q] at z
    exact z
theorem jss_one (h1 : JS X W st m) : JSs X W [st] m := pss_one h1
theorem js_pass : JS X W (.Pass pos) (.ret .nx) := ps_pass.imp fun D σ H h => by
  obtain ⟨P, A, O, ρ, e, h⟩ := h
  exact h σ H O e (Step.refl _ _)
theorem js_break : JS X W (.Break pos) (.ret .bk) := ps_break.imp fun D σ H h => by
  obtain ⟨P, A, O, ρ, e, h⟩ := h
  exact h σ H O e (Step.refl _ _)
theorem js_continue : JS X W (.Continue pos) (.ret .ct) := ps_continue.imp fun D σ H h => by
  obtain ⟨P, A, O, ρ, e, h⟩ := h
  exact h σ H O e (Step.refl _ _)
theorem js_expr (he : JE X W e ma) (hs : swapsWith e none pos.line X.env = pure false) : JS X W (.Expr e pos) (M.bind ma fun _ => .ret .nx) := (ps_expr he hs).imp fun D σ H h => by
  obtain ⟨P, A, O, ρ, e, h⟩ := h
  refine ⟨P, A, O, ρ, e, (AftS.bind1 (rl := relR X.K σ) h).mono ?_⟩
  rintro x H1 ⟨O1, ρ1, ra, F, e1, r1, s1, h1⟩
  exact h1 σ H1 O1 e1.less s1.less
theorem js_ret (he : JE X W e ma) : JS X W (.Return (some e) pos) (M.bind ma fun r => .ret (.rt r)) := (ps_ret he).imp fun D σ H h => by
  obtain ⟨P, A, O, ρ, e, h⟩ := h
  refine ⟨P, A, O, ρ, e, (AftS.bind1 (rl := relR X.K σ) h).mono ?_⟩
  rintro x H1 ⟨O1, ρ1, ra, F, e1, r1, s1, h1⟩
  exact h1 x σ H1 O1 F e1 r1 s1
theorem js_retN : JS X W (.Return none pos) (.ret (.rt (.tmp (.val .none)))) := ps_retN.imp fun D σ H h => by
  obtain ⟨P, A, O, ρ, e, h⟩ := h
  exact h .non σ H O [] e ⟨.val .non, fun _ q => absurd q List.not_mem_nil, fun _ _ q => T.noConfusion q⟩ (Step.refl _ _)
theorem js_if {c : Expr} {sa sb : List Stmt} (hc : JB X W c tb) (ha : JSs X W sa m1) (hb : JSs X W sb m2) : JS X W (.If c sa sb pos) (M.bind tb fun b => if b then m1 else m2) := (ps_if hc ha hb).imp fun D σ H h => by
  obtain ⟨P, A, O, ρ, e, h⟩ := h
  refine ⟨P, A, O, ρ, e, (AftS.bind1 (rl := relB X.K σ) h).mono ?_⟩
  rintro x H1 ⟨O1, ρ1, c, F, e1, rfl, s1, h1⟩
  cases x with
  | true => exact ⟨P, A, O1, ρ1, e1.less, h1.step s1.less⟩
  | false => exact ⟨P, A, O1, ρ1, e1.less, h1.step s1.less⟩
/-- while -/
def whileM (tb : M Bool) (m : M Fl) : Nat → M Fl
  | 0 => .bad
  | n + 1 => M.bind tb fun b => if b then M.bind m (fun f => match f with
    | .nx => whileM tb m n
    | .ct => whileM tb m n
    | .bk => .ret .nx
    | .rt r => .ret (.rt r)) else .ret .nx
theorem js_while {c : Expr} {sb : List Stmt} (n : Nat) (hp : PassesOwn (model X.prog X.w) X.A X.env X.xe) (hc : JB X W c tb) (hb : JSs X W sb m) : JS X W (.While c sb [] pos) (whileM tb m n) := (ps_while hp hc hb).imp fun D σ H h => by
  obtain ⟨P, A, O, ρ, e, h⟩ := h
  refine ⟨fun k σ H => ∃ O ρ, EnvR X.K P A O H σ ρ ∧ AftS X.K X.mg W P A O H (whileM tb m k ρ) D, ⟨n, O, ρ, e, h⟩, ?_⟩
  rintro k σ1 H1 ⟨O1, ρ1, e1, h1⟩
  cases k with
  | zero => exact h1.elim
  | succ k =>
    unfold whileM at h1
    refine ⟨P, A, O1, ρ1, e1, (AftS.bind1 (rl := relB X.K σ1) h1).mono ?_⟩
    rintro x H2 ⟨O2, ρ2, c, F, e2, rfl, s2, h2⟩
    cases x with
    | false => exact h2 σ1 H2 O2 e2.less s2.less
    | true =>
      simp only [if_true] at h2 ⊢
      replace h2 := AftS.step h2 s2.less
      refine ⟨fun σ H => ∃ O ρ, EnvR X.K P A O H σ ρ ∧ AftS X.K X.mg W P A O H (whileM tb m k ρ) D, fun σ' H' z => ⟨k, Nat.lt_succ_self _, z⟩, P, A, O2, ρ2, e2.less, ?_⟩
      unfold M.bind at h2
      cases q : m ρ2 with
      | ok f ρ3 =>
        rw [q] at h2
        cases f with
        | nx => exact fun σ3 H3 O3 e3 s3 => ⟨O3, ρ3, e3, AftS.step h2 s3⟩
        | ct => exact fun σ3 H3 O3 e3 s3 => ⟨O3, ρ3, e3, AftS.step h2 s3⟩
        | bk => exact fun σ3 H3 O3 e3 s3 => h2 σ3 H3 O3 e3 s3
        | rt r => exact h2
      | exc x ρ3 =>
        rw [q] at h2
        exact h2
      | bad =>
        rw [q] at h2
        exact h2
/-! ### stores -/
def putT (i : Nat) (t : T) : M Unit := fun ρ => if i < ρ.length then .ok () (ρ.set i (some t)) else .bad
def asgR (i : Nat) (r : R) : M Unit := match r with
  | .tmp t => putT i t
  | r => M.bind (frz r) fun d => putT i (.val d)
/-- what a store to a target asks, by values -/
def GOk (K : PySem.W.Frag) (mg : Str → Option Value) (W : WX) (g : TG) (f : R → M Unit) : Prop := ∀ (P : List Addr) (A : List V) (O : List Addr) (H : Hp) (σ : L2.St) (ρ : Rho) (F : List Addr) (v : V) (r : R) (k : M Fl) (D : Ends),
  EnvR K (F ++ P) A O H σ ρ → RR K P F O H σ v r → AftS K mg W P A (F ++ O) H (M.bind (f r) (fun _ => k) ρ) D → ∀ Q : L2.St → Hp → Prop,
    (∀ σ' H' O' ρ', EnvR K P A O' H' σ' ρ' → Step (F ++ O) H O' H' → AftS K mg W P A O' H' (k ρ') D → Q σ' H') → g v σ H Q
theorem g_name {K : PySem.W.Frag} {mg : Str → Option Value} {W : WX} {i : Nat} : GOk K mg W (gName i) (asgR i) := by
  intro P A O H σ ρ F v r k D e hr h Q hQ
  have fin : ∀ {O1 ρ1 F1 t}, EnvR K (F1 ++ P) A O1 H σ ρ1 → RR K P F1 O1 H σ v (.tmp t) → Step (F ++ O) H (F1 ++ O1) H → AftS K mg W P A (F ++ O) H (M.bind (putT i t) (fun _ => k) ρ1) D → gName i v σ H Q := by
    intro O1 ρ1 F1 t e1 r1 s1 h1
    unfold M.bind putT at h1
    by_cases hl : i < ρ1.length
    · rw [if_pos hl] at h1
      obtain ⟨O2, e2, _, s2⟩ := e1.put (H' := H) hl r1
      have s3 : Step (F ++ O) H O2 H := ⟨fun a ha => (s2 a ha).elim (fun z => s1.own a (List.mem_append_right _ z)) (fun z => s1.own a (List.mem_append_left _ z)), s1.ext, s1.stay⟩
      exact hQ _ _ O2 _ e2 s3 (AftS.step h1 s3)
    · rw [if_neg hl] at h1
      exact h1.elim
  cases r with
  | tmp t => exact fin e hr (Step.refl _ _) h
  | slot j =>
    unfold asgR M.bind at h
    simp only at h
    cases q : frz (.slot j) ρ with
    | ok d ρ' =>
      rw [q] at h
      obtain ⟨O', e', s', p⟩ := frz_ok e hr q
      exact fin (F1 := []) (t := .val d) e' ⟨.val p, fun _ z => absurd z List.not_mem_nil, fun _ _ z => T.noConfusion z⟩ ⟨fun a ha => (s'.own a ha).imp_left (List.mem_append_right _), fun a o z => s'.ext a o fun y => z (List.mem_append_right _ y), s'.stay⟩ h
    | exc x ρ' => exact (frz_noexc q).elim
    | bad =>
      rw [q] at h
      exact h.elim
theorem js_asg {tg e : Expr} {g : TG} {f : R → M Unit} (he : JE X W e ma) (hg : PG X tg g) (hf : GOk X.K X.mg W g f) (hs : swapsWithSole [tg] e pos.line X.env = pure false) (hw : swappedStores [tg] e X.env = pure none)
    (h1 : (assignEach [tg] X.env).map (·.2) = [assign tg X.env]) : JS X W (.Assign [tg] e pos) (M.bind ma fun r => M.bind (f r) fun _ => .ret .nx) := (ps_asg he hg hs hw h1).imp fun D σ H h => by
  obtain ⟨P, A, O, ρ, e, h⟩ := h
  refine ⟨P, A, O, ρ, e, (AftS.bind1 (rl := relR X.K σ) h).mono ?_⟩
  rintro x H1 ⟨O1, ρ1, ra, F, e1, r1, s1, h1⟩
  exact hf P A O1 H1 σ ρ1 F x ra (.ret .nx) D e1 r1 (AftS.step h1 s1) D.nx fun σ' H' O' ρ' e' s' h' => h' σ' H' O' e' (Step.refl _ _)
/-- name = value, the value a comprehension or not -/
theorem js_set {i : Nat} {x : Str} {pos' : Pos} {te : TE} (hp : PS X (.Assign [.Name x pos'] e pos) (tAsg te (gName i))) (hm : ∀ σ H Q, tR X.K X.mg W ma σ H Q → te σ H Q) : JS X W (.Assign [.Name x pos'] e pos) (M.bind ma fun r => M.bind (asgR i r) fun _ => .ret .nx) := hp.imp fun D σ H h => by
  obtain ⟨P, A, O, ρ, e, h⟩ := h
  refine hm σ H _ ⟨P, A, O, ρ, e, (AftS.bind1 (rl := relR X.K σ) h).mono ?_⟩
  rintro x H1 ⟨O1, ρ1, ra, F, e1, r1, s1, h1⟩
  exact g_name P A O1 H1 σ ρ1 F x ra (.ret .nx) D e1 r1 (AftS.step h1 s1) D.nx fun σ' H' O' ρ' e' s' h' => h' σ' H' O' e' (Step.refl _ _)
end
end DL

set_option Elab.async false
set_option maxRecDepth 100000
set_option maxHeartbeats 4000000
namespace DL
open PySem PySem.Spec PyProof.Rows L2
/-! ### several targets -/
/-- the targets by values; f tells how many things it takes -/
def GsOk (K : PySem.W.Frag) (mg : Str → Option Value) (W : WX) (g : TGs) (f : List D → M Unit) : Prop := ∀ (P : List Addr) (A : List V) (O : List Addr) (H : Hp) (σ : L2.St) (ρ : Rho) (vs : List V) (ds : List D) (k : M Fl) (D : Ends),
  EnvR K P A O H σ ρ → RpAll K (wo (O ++ P) H) vs ds → AftS K mg W P A O H (M.bind (f ds) (fun _ => k) ρ) D → ∀ Q : L2.St → Hp → Prop,
    (∀ σ' H' O' ρ', EnvR K P A O' H' σ' ρ' → Step O H O' H' → AftS K mg W P A O' H' (k ρ') D → Q σ' H') → g vs σ H Q
def asgNil : List D → M Unit
  | [] => .ret ()
  | _ => .bad
def asgCons (f : R → M Unit) (fs : List D → M Unit) : List D → M Unit
  | [] => .bad
  | d :: ds => M.bind (f (.tmp (.val d))) fun _ => fs ds
section
variable {K : PySem.W.Frag} {mg : Str → Option Value} {W : WX}
theorem gs_nil : GsOk K mg W gNil asgNil := by
  intro P A O H σ ρ vs ds k D e r h Q hQ
  cases r with
  | nil => exact ⟨rfl, hQ σ H O ρ e (Step.refl _ _) h⟩
  | cons a b => exact h.elim
theorem bind_assoc {α β γ : Type} (m : M α) (f : α → M β) (g : β → M γ) : M.bind (M.bind m f) g = M.bind m fun a => M.bind (f a) g := by
  funext ρ
  unfold M.bind
  cases m ρ <;> rfl
theorem rr_val {P O : List Addr} {H : Hp} {σ : L2.St} {v : V} {d : D} (a : Rp K (wo (O ++ P) H) v d) : RR K P [] O H σ v (.tmp (.val d)) := ⟨.val a, fun _ z => absurd z List.not_mem_nil, fun _ _ z => T.noConfusion z⟩
theorem gs_cons {g : TG} {gs : TGs} {f : R → M Unit} {fs : List D → M Unit} (h1 : GOk K mg W g f) (h2 : GsOk K mg W gs fs) : GsOk K mg W (gCons g gs) (asgCons f fs) := by
  intro P A O H σ ρ vs ds k D e r h Q hQ
  cases r with
  | nil => exact h.elim
  | @cons v vs d ds a b =>
    have h : AftS K mg W P A O H (M.bind (M.bind (f (.tmp (.val d))) fun _ => fs ds) (fun _ => k) ρ) D := h
    rw [bind_assoc] at h
    refine ⟨v, vs, rfl, h1 P A O H σ ρ [] v (.tmp (.val d)) (M.bind (fs ds) fun _ => k) D e (rr_val a) h _ fun σ1 H1 O1 ρ1 e1 s1 q1 => ?_⟩
    exact h2 P A O1 H1 σ1 ρ1 vs ds k D e1 (b.mono (s1.wo e.prot)) q1 Q fun σ2 H2 O2 ρ2 e2 s2 q2 => hQ σ2 H2 O2 ρ2 e2 (Step.trans s1 s2) q2
/-- (a, b, ..) = a tuple or a list of that length -/
def gSeq (K : PySem.W.Frag) (n : Nat) (t : TGs) : TG := fun v σ H Q => gTup K n t v σ H Q ∨ gLst K n t v σ H Q
theorem pg_seq {X : Cx} {es : List Expr} {k : Nat} {pos : Pos} {t : TGs} {n : Nat} (hc : X.calm = true) (h : PGs X es t) (hn : (assignEach es X.env).length = n) (hst : (assignEach es X.env).findIdx? (·.1) = none) : PG X (.Tuple es k pos) (gSeq X.K n t) :=
  ⟨fun pins s σ H v u Q I r hw => hw.elim ((pg_tup hc h hn hst).run pins s σ H v u Q I r) ((pg_lst hc h hn hst).run pins s σ H v u Q I r)⟩
def asgSeq (n : Nat) (fs : List D → M Unit) (r : R) : M Unit := M.bind (frz r) fun d => match d with
  | .tuple ds => if ds.length = n then fs ds else .bad
  | .list ds => if ds.length = n then fs ds else .bad
  | _ => .bad
theorem g_seq {t : TGs} {n : Nat} {fs : List D → M Unit} (h : GsOk K mg W t fs) : GOk K mg W (gSeq K n t) (asgSeq n fs) := by
  intro P A O H σ ρ F v r k D e hr h0 Q hQ
  unfold asgSeq at h0
  rw [bind_assoc] at h0
  unfold M.bind at h0
  cases q : frz r ρ with
  | exc x ρ' => exact (frz_noexc q).elim
  | bad =>
    rw [q] at h0
    exact h0.elim
  | ok d ρ' =>
    rw [q] at h0
    obtain ⟨O', e', s', p⟩ := frz_ok e hr q
    have s2 : Step (F ++ O) H O' H := ⟨fun a ha => (s'.own a ha).imp_left (List.mem_append_right _), fun a o z => s'.ext a o fun y => z (List.mem_append_right _ y), s'.stay⟩
    simp only at h0
    cases p with
    | @tup a xs ds h1 h2 =>
      simp only at h0
      by_cases hl : ds.length = n
      · rw [if_pos hl] at h0
        exact .inl ⟨a, xs, rfl, sqt_mono wo_sub h1, by rw [h2.length]; exact hl, h P A O' H σ ρ' xs ds k D e' h2 (AftS.step h0 s2) Q fun σ1 H1 O1 ρ1 e1 s1 q1 => hQ σ1 H1 O1 ρ1 e1 (s2.trans s1) q1⟩
      · rw [if_neg hl] at h0
        exact h0.elim
    | @lst a xs ds h1 h2 =>
      simp only at h0
      by_cases hl : ds.length = n
      · rw [if_pos hl] at h0
        exact .inr ⟨a, xs, rfl, sql_mono wo_sub h1, by rw [h2.length]; exact hl, h P A O' H σ ρ' xs ds k D e' h2 (AftS.step h0 s2) Q fun σ1 H1 O1 ρ1 e1 s1 q1 => hQ σ1 H1 O1 ρ1 e1 (s2.trans s1) q1⟩
      · rw [if_neg hl] at h0
        exact h0.elim
    | non => exact h0.elim
    | bl b => exact h0.elim
    | int b => exact h0.elim
    | str b => exact h0.elim
end
/-! ### a, b = x, y -/
section
variable {X : Cx} {W : WX} {pos : Pos} {ms : M (List R)}
/-- the values are made things first -/
def parM (is : List Nat) (rs : List R) : M Fl := M.bind (frzs rs) fun ds ρ => if ds.length = is.length then (if is.all (fun i => decide (i < ρ.length)) then .ok .nx ((is.zip ds).foldl (fun ρ p => ρ.set p.1 (some (.val p.2))) ρ) else .bad) else .bad
theorem EnvR.putV {K : PySem.W.Frag} {P O : List Addr} {A : List V} {H : Hp} {σ : L2.St} {ρ : Rho} {i : Nat} {v : V} {d : D} (e : EnvR K P A O H σ ρ) (hi : i < ρ.length) (r : Rp K (wo (O ++ P) H) v d) : ∃ O', EnvR K P A O' H (σ.set i (some v)) (ρ.set i (some (.val d))) ∧ Step O H O' H := by
  obtain ⟨O', e', _, s⟩ := EnvR.put (F := []) (H' := H) e hi (rr_val r)
  exact ⟨O', e', ⟨fun a ha => (s a ha).elim .inl (fun z => absurd z List.not_mem_nil), fun _ _ _ q => q, fun _ o q => ⟨o, q⟩⟩⟩
theorem js_par {i j : Nat} {x y : Str} {a b : Expr} {px py pt : Pos} {kt k2 pt2} (hc : X.calm = true) (hN : X.N.Nodup) (hi : X.N[i]? = some x) (hj : X.N[j]? = some y) (hij : i ≠ j)
    (hx : X.env.scope.names.lookup x = some .local) (hy : X.env.scope.names.lookup y = some .local) (ha : JEs X W [a, b] ms)
    (hw : swappedStores [.Tuple [.Name x px, .Name y py] kt pt] (.Tuple [a, b] k2 pt2) X.env = pure (some [x, y]))
    (hs : swapsWithSole [.Tuple [.Name x px, .Name y py] kt pt] (.Tuple [a, b] k2 pt2) pos.line X.env = pure false) :
    JS X W (.Assign [.Tuple [.Name x px, .Name y py] kt pt] (.Tuple [a, b] k2 pt2) pos) (M.bind ms (parM [i, j])) := (ps_par hc hN hi hj hij hx hy ha hw hs).imp fun D σ H h => by
  obtain ⟨P, A, O, ρ, e, h⟩ := h
  refine ⟨P, A, O, ρ, e, (AftS.bind1 (rl := relRs X.K σ) h).mono ?_⟩
  rintro vs H1 ⟨O1, ρ1, rs, F, e1, r1, s1, h1⟩
  unfold parM M.bind at h1
  cases q : frzs rs ρ1 with
  | exc x ρ' => exact (frzs_noexc q).elim
  | bad =>
    rw [q] at h1
    exact h1.elim
  | ok ds ρ2 =>
    rw [q] at h1
    obtain ⟨O2, e2, s2, p2⟩ := frzs_ok e1 r1 q
    simp only at h1
    by_cases hl : ds.length = ([i, j] : List Nat).length
    · rw [if_pos hl] at h1
      by_cases hb : ([i, j] : List Nat).all (fun i => decide (i < ρ2.length)) = true
      · rw [if_pos hb] at h1
        match ds, hl, p2, h1 with
        | [d, d'], _, .cons (v := v) a (.cons (v := w) b .nil), h1 =>
          simp only [List.all_cons, Bool.and_eq_true, decide_eq_true_eq] at hb
          obtain ⟨O3, e3, s3⟩ := e2.putV (i := i) hb.1 a
          obtain ⟨O4, e4, s4⟩ := e3.putV (i := j) (by rw [List.length_set]; exact hb.2.1) (b.mono (s3.wo e2.prot))
          exact ⟨v, w, rfl, h1 _ H1 O4 e4 (((s1.less.trans s2).trans s3).trans s4)⟩
      · rw [if_neg hb] at h1
        exact h1.elim
    · rw [if_neg hl] at h1
      exact h1.elim
theorem js_par3 {i j l : Nat} {x y z : Str} {a b c : Expr} {px py pz pt : Pos} {kt k2 pt2} (hc : X.calm = true) (hN : X.N.Nodup) (hi : X.N[i]? = some x) (hj : X.N[j]? = some y) (hl : X.N[l]? = some z) (hij : i ≠ j) (hil : i ≠ l) (hjl : j ≠ l)
    (hx : X.env.scope.names.lookup x = some .local) (hy : X.env.scope.names.lookup y = some .local) (hz : X.env.scope.names.lookup z = some .local) (ha : JEs X W [a, b, c] ms)
    (hw : swappedStores [.Tuple [.Name x px, .Name y py, .Name z pz] kt pt] (.Tuple [a, b, c] k2 pt2) X.env = pure (some [x, y, z]))
    (hs : swapsWithSole [.Tuple [.Name x px, .Name y py, .Name z pz] kt pt] (.Tuple [a, b, c] k2 pt2) pos.line X.env = pure false) :
    JS X W (.Assign [.Tuple [.Name x px, .Name y py, .Name z pz] kt pt] (.Tuple [a, b, c] k2 pt2) pos) (M.bind ms (parM [i, j, l])) := (ps_par3 hc hN hi hj hl hij hil hjl hx hy hz ha hw hs).imp fun D σ H h => by
  obtain ⟨P, A, O, ρ, e, h⟩ := h
  refine ⟨P, A, O, ρ, e, (AftS.bind1 (rl := relRs X.K σ) h).mono ?_⟩
  rintro vs H1 ⟨O1, ρ1, rs, F, e1, r1, s1, h1⟩
  unfold parM M.bind at h1
  cases q : frzs rs ρ1 with
  | exc x ρ' => exact (frzs_noexc q).elim
  | bad =>
    rw [q] at h1
    exact h1.elim
  | ok ds ρ2 =>
    rw [q] at h1
    obtain ⟨O2, e2, s2, p2⟩ := frzs_ok e1 r1 q
    simp only at h1
    by_cases hln : ds.length = ([i, j, l] : List Nat).length
    · rw [if_pos hln] at h1
      by_cases hb : ([i, j, l] : List Nat).all (fun i => decide (i < ρ2.length)) = true
      · rw [if_pos hb] at h1
        match ds, hln, p2, h1 with
        | [d, d', d''], _, .cons (v := v) a (.cons (v := w) b (.cons (v := u) c .nil)), h1 =>
          simp only [List.all_cons, Bool.and_eq_true, decide_eq_true_eq] at hb
          obtain ⟨O3, e3, s3⟩ := e2.putV (i := i) hb.1 a
          obtain ⟨O4, e4, s4⟩ := e3.putV (i := j) (by rw [List.length_set]; exact hb.2.1) (b.mono (s3.wo e2.prot))
          obtain ⟨O5, e5, s5⟩ := e4.putV (i := l) (by rw [List.length_set, List.length_set]; exact hb.2.2.1) (c.mono ((Step.trans s3 s4).wo e2.prot))
          exact ⟨v, w, u, rfl, h1 _ H1 O5 e5 ((((s1.less.trans s2).trans s3).trans s4).trans s5)⟩
      · rw [if_neg hb] at h1
        exact h1.elim
    · rw [if_neg hln] at h1
      exact h1.elim
/-! ### x += e -/
def augM (i : Nat) (f : D → D → Option T) (ma : M R) : M Fl := M.bind (getM i) fun r => M.bind ma fun rb => M.bind (op2 f r rb) fun z => M.bind (asgR i z) fun _ => .ret .nx
theorem js_aug {i : Nat} {x : Str} {e : Expr} {op : Operator} {ti : TIp} {f : D → D → Option T} {pos' : Pos} {ma : M R} (hN : X.N.Nodup) (hi : X.N[i]? = some x) (hx : Loc X.env.scope x) (he : JE X W e ma) (ho : PIp X op ti) (hf : OpOk X.K ti f)
    (hfn : X.fn x = true ∨ X.env.scope.names.lookup x = some .local) : JS X W (.AugAssign (.Name x pos') op e pos) (augM i f ma) := (ps_aug hN hi hx he ho hfn).imp fun D σ H h => by
  obtain ⟨P, A, O, ρ, e, h⟩ := h
  unfold augM at h
  have h0 := AftS.bind1 (rl := relR X.K σ) (σ := σ) h
  unfold getM at h0
  cases q : ρ[i]? with
  | none =>
    rw [q] at h0
    exact h0.elim
  | some o =>
    cases o with
    | none =>
      rw [q] at h0
      exact h0.elim
    | some t =>
      rw [q] at h0
      obtain ⟨Fs, h1, h2⟩ := e.at_
      obtain ⟨v, e1, _⟩ := h1 i t q
      refine ⟨v, e1, ?_⟩
      obtain ⟨O1, ρ1, r, F, e3, r3, s3, h3⟩ := h0 v H O [] e e1 (Step.refl _ _)
      refine ⟨F ++ P, A, O1, ρ1, e3, (AftS.bindE (rl := relR X.K σ) F s3.less h3).mono ?_⟩
      rintro y H2 ⟨O2, ρ2, rb, G, e4, r4, s4, h4⟩
      have h5 := AftS.bind1 (rl := relR X.K σ) (σ := σ) (AftS.step h4 (s3.less.trans s4.less))
      refine op2_ok hf e4.less.less (r3.step s4.less e3.off) r4.less (Q := fun z H2 => D.nx (σ.set i (some z)) H2) (h5.mono ?_)
      rintro z H3 ⟨O3, ρ3, rz, G3, e6, r6, s6, h6⟩
      exact g_name P A O3 H3 σ ρ3 G3 z rz (.ret .nx) D e6 r6 (AftS.step h6 s6) D.nx fun σ' H' O' ρ' e' s' h' => h' σ' H' O' e' (Step.refl _ _)
/-! ### x[i] = e, x a slot's own list -/
def fSetL (ds : List D) (i : D) (d : D) : Option (List D) := match i with
  | .int k => (ixN ds.length k).map fun j => ds.set j d
  | _ => none
/-- slot i's own list becomes another -/
def mutM {α : Type} (r : R) (f : List D → Option (List D × α)) : M α := fun ρ => match r with
  | .slot i => (match ρ[i]? with
    | some (some (.lst tag ds)) => (match f ds with
      | some (es, a) => .ok a (ρ.set i (some (.lst tag es)))
      | none => .bad)
    | _ => .bad)
  | _ => .bad
/-- the list at slot i, and what a change of it leaves -/
theorem EnvR.own {K : PySem.W.Frag} {P O : List Addr} {A : List V} {H : Hp} {σ : L2.St} {ρ : Rho} {i : Nat} {v : V} {tag : Option Nat} {ds : List D} (e : EnvR K P A O H σ ρ) (hi : ρ[i]? = some (some (.lst tag ds))) (hv : σ[i]? = some (some v)) :
    ∃ a vs, v = .ref a ∧ H a = some (.lst vs) ∧ RpAll K (wo (O ++ P) H) vs ds ∧ a ∈ O ∧ ∀ ws es, RpAll K (wo (O ++ P) H) ws es → EnvR K P A O (upd H a (.lst ws)) σ (ρ.set i (some (.lst tag es))) ∧ Step O H O (upd H a (.lst ws)) := by
  obtain ⟨Fs, h1, h2⟩ := e.at_
  obtain ⟨w, e1, r, hO⟩ := h1 i _ hi
  rw [e1] at hv
  cases hv
  generalize hF : Fs i = F at r hO
  cases r with
  | @lst a vs _ _ m1 m2 m3 =>
    have haO : a ∈ O := hO a (List.mem_singleton.mpr rfl)
    refine ⟨a, vs, rfl, m2, m3, haO, fun ws es hw => ?_⟩
    have same : ∀ b o, wo (O ++ P) H b = some o → wo (O ++ P) (upd H a (.lst ws)) b = some o := fun b o q => by
      obtain ⟨q1, q2⟩ := wo_some.mp q
      refine wo_some.mpr ⟨q1, ?_⟩
      rw [upd_ne (fun z => q1 (by rw [z]; exact List.mem_append_left _ haO))]
      exact q2
    refine ⟨⟨by rw [List.length_set]; exact e.len, ⟨Fs, fun j t q => ?_, h2⟩, fun b hb => ⟨(e.prot b hb).1, ?_⟩, fun b hb => ?_, fun j k ds' q => ?_⟩, fun _ q => .inl q, fun b o q1 q2 => ?_, fun b o q => ?_⟩
    · rcases get_set q with ⟨hj, q'⟩ | ⟨hj, q'⟩
      · subst hj
        cases q'
        refine ⟨_, e1, ?_, fun b hb => by rw [hF] at hb; exact hO b hb⟩
        rw [hF]
        exact .lst (List.mem_append_left _ haO) upd_same (hw.mono same)
      · obtain ⟨w, e2, r2, hO2⟩ := h1 j t q'
        refine ⟨w, e2, r2.keep same fun b hb => ⟨List.mem_append_left _ (hO2 b hb), ?_⟩, hO2⟩
        rw [upd_ne fun z => by subst z; exact h2 j i hj b hb (by rw [hF]; exact List.mem_singleton.mpr rfl)]
    · by_cases z : b = a
      · subst z
        exact ⟨_, upd_same⟩
      · rw [upd_ne z]
        exact (e.prot b hb).2
    · by_cases z : b = a
      · subst z
        exact ⟨_, upd_same⟩
      · rw [upd_ne z]
        exact e.trk b hb
    · rcases get_set q with ⟨hj, q'⟩ | ⟨hj, q'⟩
      · subst hj
        cases q'
        exact e.tag j k ds hi
      · exact e.tag j k ds' q'
    · rw [upd_ne fun z => q1 (by rw [z]; exact haO)]
      exact q2
    · by_cases z : b = a
      · subst z
        exact ⟨_, upd_same⟩
      · exact ⟨o, by rw [upd_ne z]; exact q⟩
def subM (ra ri : R) (rv : D) : M Unit := fun ρ => match look ri ρ with
  | some k => mutM ra (fun ds => (fSetL ds k rv).map fun es => (es, ())) ρ
  | none => .bad
/-- o[i] = v: the value first -/
def asgSub (mo mi : M R) (r : R) : M Unit := M.bind (frz r) fun d => M.bind mo fun ro => M.bind mi fun ri => subM ro ri d
theorem g_sub {mo mi : M R} : GOk X.K X.mg W (gSub (tR X.K X.mg W mo) (tR X.K X.mg W mi) rSetL) (asgSub mo mi) := by
  intro P A O H σ ρ F v r k D e hr h0 Q hQ
  unfold asgSub at h0
  rw [bind_assoc] at h0
  unfold M.bind at h0
  cases q : frz r ρ with
  | exc x ρ' => exact (frz_noexc q).elim
  | bad =>
    rw [q] at h0
    exact h0.elim
  | ok d ρ' =>
    rw [q] at h0
    obtain ⟨O', e', s', p⟩ := frz_ok e hr q
    have s2 : Step (F ++ O) H O' H := ⟨fun a ha => (s'.own a ha).imp_left (List.mem_append_right _), fun a o z => s'.ext a o fun y => z (List.mem_append_right _ y), s'.stay⟩
    have h1 : AftS X.K X.mg W P A O' H (M.bind mo (fun ro => M.bind mi fun ri => M.bind (subM ro ri d) fun _ => k) ρ') D := by
      have z := AftS.step h0 s2
      have eq : M.bind mo (fun ro => M.bind mi fun ri => M.bind (subM ro ri d) fun _ => k) = M.bind (M.bind mo fun ro => M.bind mi fun ri => subM ro ri d) fun _ => k := by
        rw [bind_assoc]
        congr 1
        funext ro
        rw [bind_assoc]
      rw [eq]
      exact z
    refine ⟨P, A, O', ρ', e', (AftS.bind1 (rl := relR X.K σ) h1).mono ?_⟩
    rintro x H1 ⟨O1, ρ1, ro, F1, e1, r1, t1, g1⟩
    refine ⟨F1 ++ P, A, O1, ρ1, e1, (AftS.bindE (rl := relR X.K σ) F1 t1.less g1).mono ?_⟩
    rintro y H2 ⟨O2, ρ2, ri, F2, e2, r2, t2, g2⟩
    have e3 := e2.less.less
    have ro2 := r1.step t2.less e1.off
    have ri2 := r2.less
    have s3 := t1.less.trans t2.less
    have g3 := AftS.step g2 s3
    have p3 : Rp X.K (wo (O2 ++ P) H2) v d := p.mono (s3.wo e'.prot)
    unfold M.bind subM at g3
    cases ql : look ri ρ2 with
    | none =>
      rw [ql] at g3
      exact g3.elim
    | some kd =>
      rw [ql] at g3
      have vk := look_vr e3 ri2 ql
      cases ro with
      | tmp t => exact g3.elim
      | slot j =>
        unfold mutM at g3
        simp only at g3
        cases qj : ρ2[j]? with
        | none => rw [qj] at g3; exact g3.elim
        | some u =>
          cases u with
          | none => rw [qj] at g3; exact g3.elim
          | some u =>
            cases u with
            | val _ => rw [qj] at g3; exact g3.elim
            | lst tag ds =>
              rw [qj] at g3
              simp only at g3
              obtain ⟨a, ws, rfl, m2, m3, m4, m5⟩ := e3.own qj ro2
              cases qf : fSetL ds kd d with
              | none => rw [qf] at g3; exact g3.elim
              | some es =>
                rw [qf] at g3
                simp only [Option.map_some] at g3
                unfold fSetL at qf
                cases kd with
                | int kk =>
                  simp only at qf
                  obtain ⟨jj, q1, q2⟩ := Option.map_eq_some_iff.mp qf
                  subst q2
                  cases vk.int
                  obtain ⟨e5, s5⟩ := m5 (ws.set jj v) (ds.set jj d) (m3.set p3 jj)
                  exact ⟨a, ws, kk, jj, rfl, rfl, m2, by rw [m3.length]; exact q1, hQ σ _ O2 _ e5 ((s2.trans s3).trans s5) (AftS.step g3 s5)⟩
                | _ => cases qf
end
end DL

set_option Elab.async false
set_option maxRecDepth 100000
set_option maxHeartbeats 4000000
namespace DL
open PySem PySem.Spec PyProof.Rows L2
/-! ### what is walked -/
/-- the iterator J tells these things, as long as the frame's own lists are its own -/
def ItOk (K : PySem.W.Frag) (P : List Addr) (J : It) (ds : List D) (O0 : List Addr) (H0 : Hp) : Prop :=
  ∀ (G : List Addr) (A : List V) (O : List Addr) (H : Hp) (σ : L2.St) (ρ : Rho), (∀ a ∈ G, H0 a = none) → EnvR K (G ++ P) A O H σ ρ → Step O0 H0 O H → ∀ i : Nat,
    (∀ d, ds[i]? = some d → J.go i H ∧ ∀ x H', J.yld i H x H' → (∀ a o, H a = some o → H' a = some o) ∧ Rp K (wo (O ++ (G ++ P)) H') x d) ∧ (ds.length ≤ i → J.stop i H)
theorem Step.woG {O O' P G : List Addr} {H H' : Hp} (s : Step O H O' H') (hP : ∀ a ∈ P, a ∉ O ∧ ∃ o, H a = some o) (hG : ∀ a ∈ G, H a = none) : ∀ a o, DL.wo (O ++ P) H a = some o → DL.wo (O' ++ (G ++ P)) H' a = some o := fun a o e => by
  obtain ⟨h1, h2⟩ := wo_some.mp (s.wo hP a o e)
  obtain ⟨h3, h4⟩ := wo_some.mp e
  simp only [List.mem_append, not_or] at h1
  refine wo_some.mpr ⟨?_, h2⟩
  simp only [List.mem_append, not_or]
  refine ⟨h1.1, fun z => ?_, h1.2⟩
  rw [hG a z] at h4
  cases h4
abbrev relI : PySem.W.Frag → L2.St → List Addr → List Addr → List Addr → Hp → It → List D → Prop := fun K _ P F O H J ds => F = [] ∧ ItOk K P J ds O H
abbrev tI (K : PySem.W.Frag) (mg : Str → Option Value) (W : WX) (m : M (List D)) : TI := tG relI K mg W m
abbrev JI (X : Cx) (W : WX) (tg e : Expr) (m : M (List D)) : Prop := PI X tg e (tI X.K X.mg W m)
theorem _root_.L2.PI.imp {X : Cx} {tg e : Expr} {t t' : TI} (h : PI X tg e t) (q : ∀ σ H R, t' σ H R → t σ H R) : PI X tg e t' := ⟨fun pins s σ H R I z => h.run pins s σ H R I (q σ H R z)⟩
def iAny (K : PySem.W.Frag) (tl : TE) : TI := fun σ H R => tl σ H fun x H1 => (∃ a, x = .ref a ∧ (∃ xs, SqL K H1 a xs) ∧ R (Itl K a) H1) ∨ (∃ a, x = .ref a ∧ (∃ xs, SqT K H1 a xs) ∧ R (Itt K a) H1) ∨ (∃ z, x = .str z ∧ R (Its z) H1)
theorem pi_any {X : Cx} {tg e : Expr} {te : TE} (he : PE X e te) : PI X tg e (iAny X.K te) := by
  refine ⟨fun pins s σ H R I h => ?_⟩
  refine thn (he.run pins s σ H _ I h) fun v s1 ⟨x, H1, I1, r1, q1⟩ => ?_
  rcases q1 with ⟨a, e, ⟨xs, hq⟩, q⟩ | ⟨a, e, ⟨xs, hq⟩, q⟩ | ⟨x, ex, q⟩
  · subst e
    cases r1
    obtain ⟨its, rv, p, hz⟩ := I1.list hq
    refine wpAny_pyIter_list p.isList ?_
    refine ⟨s1.heap.objs.size, [s1.heap.objs.size], _, _, H1, rfl, I1.kept (t' := s1.toks) fun b o e => Heap.get?_push_of_some _ e, turn_list a _, ⟨_, Heap.get?_push_size _ rfl, rfl, rfl⟩, fun b hb => ?_, q⟩
    have e : b = s1.heap.objs.size := by simpa using hb
    subst e
    exact I1.fpOk (Nat.le_refl _) (I1.hok.fresh (Nat.le_refl _))
  · subst e
    cases r1
    obtain ⟨its, rv, p, hz⟩ := I1.tuple hq
    refine wpAny_pyIter_tuple (show s1.heap.IsTuple a its.toArray from p) ?_
    refine ⟨s1.heap.objs.size, [s1.heap.objs.size], _, _, H1, rfl, I1.kept (t' := s1.toks) fun b o e => Heap.get?_push_of_some _ e, turn_tuple a _, ⟨_, Heap.get?_push_size _ rfl, rfl, rfl⟩, fun b hb => ?_, q⟩
    have e : b = s1.heap.objs.size := by simpa using hb
    subst e
    exact I1.fpOk (Nat.le_refl _) (I1.hok.fresh (Nat.le_refl _))
  · subst ex
    obtain ⟨t, rfl⟩ := r1
    cases ha : x.cps.all (· < 128)
    · exact wpAny_pyIter_wide ha (pi_one (tk := s1.toks) I1 _ (turn_str _ x t "str_iterator" (.inr rfl)) ⟨_, Heap.get?_push_size _ rfl, rfl, rfl⟩ q)
    · exact wpAny_pyIter_ascii ha (pi_one (tk := s1.toks) I1 _ (turn_str _ x t "str_ascii_iterator" (.inl rfl)) ⟨_, Heap.get?_push_size _ rfl, rfl, rfl⟩ q)
def chars (z : Str) : List D := z.cps.toList.map fun c => .str ⟨#[c]⟩
def itemsD : D → Option (List D)
  | .list ds => some ds
  | .tuple ds => some ds
  | .str z => some (chars z)
  | _ => none
def items (r : R) : M (List D) := M.bind (frz r) fun d ρ => match itemsD d with
  | some ds => .ok ds ρ
  | none => .bad
def irange (lo : Int) (n : Nat) : List D := (List.range n).map fun (i : Nat) => .int (lo + (i : Int))
section
variable {K : PySem.W.Frag} {P O : List Addr} {H : Hp}
theorem itOk_list {x : V} {a : Addr} {vs : List V} {ds : List D} (hP : ∀ b ∈ P, b ∉ O ∧ ∃ o, H b = some o) (h1 : SqL K (wo (O ++ P) H) a vs) (h2 : RpAll K (wo (O ++ P) H) vs ds) : ItOk K P (Itl K a) ds O H := by
  intro G A O1 H1 σ ρ hG e s i
  have m := s.woG hP hG
  have g1 : SqL K H1 a vs := sql_mono wo_sub (sql_mono m h1)
  refine ⟨fun d hd => ?_, fun hl => ⟨vs, g1, by rw [h2.length]; exact hl⟩⟩
  obtain ⟨v, hv, rv⟩ := h2.get hd
  exact ⟨⟨vs, v, g1, hv⟩, fun x H' y => by
    obtain ⟨rfl, y⟩ := y
    refine ⟨fun _ _ q => q, ?_⟩
    have z := y vs g1
    rw [hv] at z
    cases z
    exact rv.mono m⟩
theorem itOk_tup {x : V} {a : Addr} {vs : List V} {ds : List D} (hP : ∀ b ∈ P, b ∉ O ∧ ∃ o, H b = some o) (h1 : SqT K (wo (O ++ P) H) a vs) (h2 : RpAll K (wo (O ++ P) H) vs ds) : ItOk K P (Itt K a) ds O H := by
  intro G A O1 H1 σ ρ hG e s i
  have m := s.woG hP hG
  have g1 : SqT K H1 a vs := sqt_mono wo_sub (sqt_mono m h1)
  refine ⟨fun d hd => ?_, fun hl => ⟨vs, g1, by rw [h2.length]; exact hl⟩⟩
  obtain ⟨v, hv, rv⟩ := h2.get hd
  exact ⟨⟨vs, v, g1, hv⟩, fun x H' y => by
    obtain ⟨rfl, y⟩ := y
    refine ⟨fun _ _ q => q, ?_⟩
    have z := y vs g1
    rw [hv] at z
    cases z
    exact rv.mono m⟩
theorem itOk_str {z : Str} : ItOk K P (Its z) (chars z) O H := by
  intro G A O1 H1 σ ρ hG e s i
  refine ⟨fun d hd => ?_, fun hl => ?_⟩
  · unfold chars at hd
    rw [List.getElem?_map] at hd
    obtain ⟨c, hc, rfl⟩ := Option.map_eq_some_iff.mp hd
    have hi : i < z.cps.size := by
      have := (List.getElem?_eq_some_iff.mp hc).1
      simpa using this
    refine ⟨hi, fun x H' y => ?_⟩
    obtain ⟨rfl, c', hc', rfl⟩ := y
    have : c' = c := by
      have e1 : z.cps.toList[i]? = some c' := by simpa using hc'
      rw [hc] at e1
      exact (Option.some.inj e1).symm
    subst this
    exact ⟨fun _ _ q => q, .str _⟩
  · have : (chars z).length = z.cps.size := by simp [chars]
    show z.cps.size ≤ i
    omega
theorem itOk_range {lo : Int} {n : Nat} : ItOk K P (Itr lo n) (irange lo n) O H := by
  unfold irange
  intro G A O1 H1 σ ρ hG e s i
  refine ⟨fun d hd => ?_, fun hl => ?_⟩
  · rw [List.getElem?_map] at hd
    obtain ⟨c, hc, rfl⟩ := Option.map_eq_some_iff.mp hd
    obtain ⟨h1, h2⟩ := List.getElem?_eq_some_iff.mp hc
    rw [List.length_range] at h1
    rw [List.getElem_range] at h2
    subst h2
    refine ⟨h1, fun x H' y => ?_⟩
    obtain ⟨rfl, rfl⟩ := y
    exact ⟨fun _ _ q => q, .int _⟩
  · show n ≤ i
    simpa using hl
end
section
variable {X : Cx} {W : WX} {tg e : Expr} {pos : Pos} {ma mb : M R} {body : List Stmt} {m : M Fl}
theorem ji_any (he : JE X W e ma) : JI X W tg e (M.bind ma items) := (pi_any he).imp fun σ H R h => by
  obtain ⟨P, A, O, ρ, e, h⟩ := h
  refine ⟨P, A, O, ρ, e, (Aft.bind (rl := relR X.K σ) h).mono ?_⟩
  rintro x H1 ⟨O1, ρ1, ra, F, e1, r1, s1, h1⟩
  obtain ⟨O2, ρ2, d, e2, s2, p, _, h2⟩ := Aft.frz e1 r1 (h1.step s1.less)
  cases q : itemsD d with
  | none =>
    simp only [q] at h2
    exact h2.elim
  | some ds =>
    simp only [q] at h2
    have fin : ∀ J, ItOk X.K P J ds O2 H1 → R J H1 := fun J hJ => h2 J H1 O2 [] e2 ⟨rfl, hJ⟩ (Step.refl _ _)
    cases p with
    | @lst a xs es g1 g2 =>
      cases q
      exact .inl ⟨a, rfl, ⟨xs, sql_mono wo_sub g1⟩, fin _ (itOk_list (x := .non) e2.prot g1 g2)⟩
    | @tup a xs es g1 g2 =>
      cases q
      exact .inr (.inl ⟨a, rfl, ⟨xs, sqt_mono wo_sub g1⟩, fin _ (itOk_tup (x := .non) e2.prot g1 g2)⟩)
    | str z =>
      cases q
      exact .inr (.inr ⟨z, rfl, fin _ itOk_str⟩)
    | non => cases q
    | bl b => cases q
    | int b => cases q
def rng1 (rs : List R) : M (List D) := fun ρ => match rs with
  | [r] => (match look r ρ with
    | some (.int j) => if -(2 ^ 62) ≤ j ∧ j < 2 ^ 62 then .ok (irange 0 j.toNat) ρ else .bad
    | _ => .bad)
  | _ => .bad
def rng2 (rs : List R) : M (List D) := fun ρ => match rs with
  | [r, r'] => (match look r ρ, look r' ρ with
    | some (.int i), some (.int j) => if -(2 ^ 62) ≤ i ∧ i < 2 ^ 62 ∧ -(2 ^ 62) ≤ j ∧ j < 2 ^ 62 then .ok (irange i (j - i).toNat) ρ else .bad
    | _, _ => .bad)
  | _ => .bad
theorem rrs1 {K : PySem.W.Frag} {P O F : List Addr} {A : List V} {H : Hp} {σ : L2.St} {ρ : Rho} {vs : List V} {r : R} (e : EnvR K P A O H σ ρ) (h : RRs K P O H σ F vs [r]) : ∃ v, vs = [v] ∧ ∀ d, look r ρ = some d → VR K (O ++ P) H v d := by
  cases h with
  | cons a b _ =>
    cases b
    exact ⟨_, rfl, fun d hd => look_vr e a hd⟩
theorem rrs2 {K : PySem.W.Frag} {P O F : List Addr} {A : List V} {H : Hp} {σ : L2.St} {ρ : Rho} {vs : List V} {r r' : R} (e : EnvR K P A O H σ ρ) (h : RRs K P O H σ F vs [r, r']) : ∃ v v', vs = [v, v'] ∧ (∀ d, look r ρ = some d → VR K (O ++ P) H v d) ∧ ∀ d, look r' ρ = some d → VR K (O ++ P) H v' d := by
  cases h with
  | cons a b _ =>
    cases b with
    | cons a' b' _ =>
      cases b'
      exact ⟨_, _, rfl, fun d hd => look_vr e a hd, fun d hd => look_vr e a'.less hd⟩
theorem ji_range1 {a : Expr} {p : Pos} {ms : M (List R)} (hg : Gl X "range") (hm : X.mg "range" = none) (ha : JEs X W [a] ms) (hs : starEach [a] X.env = [(false, eval a X.env)]) : JI X W tg (.Call (.Name "range" p) [a] [] pos) (M.bind ms rng1) :=
  (pi_range1 hg hm ha hs).imp fun σ H R h => by
    obtain ⟨P, A, O, ρ, e, h⟩ := h
    refine ⟨P, A, O, ρ, e, (Aft.bind (rl := relRs X.K σ) h).mono ?_⟩
    rintro vs H1 ⟨O1, ρ1, rs, F, e1, r1, s1, h1⟩
    unfold rng1 at h1
    split at h1
    · obtain ⟨v, rfl, hv⟩ := rrs1 e1.less r1
      split at h1
      · rename_i j q
        split at h1
        · rename_i hj
          cases (hv _ q).int
          exact ⟨j, rfl, hj.1, hj.2, h1 _ H1 O1 [] e1.less ⟨rfl, itOk_range⟩ s1.less⟩
        · exact h1.elim
      · exact h1.elim
    · exact h1.elim
theorem ji_range2 {a b : Expr} {p : Pos} {ms : M (List R)} (hg : Gl X "range") (hm : X.mg "range" = none) (ha : JEs X W [a, b] ms) (hs : starEach [a, b] X.env = [(false, eval a X.env), (false, eval b X.env)]) (hs2 : starEach [b] X.env = [(false, eval b X.env)]) :
    JI X W tg (.Call (.Name "range" p) [a, b] [] pos) (M.bind ms rng2) :=
  (pi_range2 hg hm ha hs hs2).imp fun σ H R h => by
    obtain ⟨P, A, O, ρ, e, h⟩ := h
    refine ⟨P, A, O, ρ, e, (Aft.bind (rl := relRs X.K σ) h).mono ?_⟩
    rintro vs H1 ⟨O1, ρ1, rs, F, e1, r1, s1, h1⟩
    unfold rng2 at h1
    split at h1
    · obtain ⟨v, v', rfl, hv, hv'⟩ := rrs2 e1.less r1
      split at h1
      · rename_i i j q q'
        split at h1
        · rename_i hj
          cases (hv _ q).int
          cases (hv' _ q').int
          exact ⟨i, j, rfl, hj, h1 _ H1 O1 [] e1.less ⟨rfl, itOk_range⟩ s1.less⟩
        · exact h1.elim
      · exact h1.elim
    · exact h1.elim
def forM (f : R → M Unit) (m : M Fl) : List D → M Fl
  | [] => .ret .nx
  | d :: ds => M.bind (M.bind (f (.tmp (.val d))) fun _ => m) fun fl => match fl with
    | .nx => forM f m ds
    | .ct => forM f m ds
    | .bk => .ret .nx
    | .rt r => .ret (.rt r)
theorem js_for {g : TG} {f : R → M Unit} {mi : M (List D)} (hp : PassesOwn (model X.prog X.w) X.A X.env X.xe) (hc : X.calm = true) (hi : JI X W tg e mi) (hg : PG X tg g) (hf : GOk X.K X.mg W g f) (hb : JSs X W body m) (hs : ∀ x, foldedSetIterable e X.env x = pure x) :
    JS X W (.For tg e body [] pos) (M.bind mi (forM f m)) := (ps_for hp hc hi hg hb hs).imp fun D σ H h => by
  obtain ⟨P, A, O, ρ, e, h⟩ := h
  refine ⟨P, A, O, ρ, e, (AftS.bind1 (rl := relI X.K σ) h).mono ?_⟩
  rintro J H1 ⟨O1, ρ1, ds, F, e1, ⟨rfl, hJ⟩, s1, h1⟩
  refine ⟨fun i k σ H => k = ds.length - i ∧ i ≤ ds.length ∧ ∃ O ρ, EnvR X.K P A O H σ ρ ∧ Step O1 H1 O H ∧ AftS X.K X.mg W P A O H (forM f m (ds.drop i) ρ) D, ⟨ds.length, by simp, Nat.zero_le _, O1, ρ1, e1, Step.refl _ _, AftS.step h1 s1.less⟩, ?_⟩
  rintro i k σ2 H2 ⟨rfl, hi, O2, ρ2, e2, s2, h2⟩
  have J2 := hJ [] A O2 H2 σ2 ρ2 (fun _ h => absurd h List.not_mem_nil) e2 s2 i
  by_cases hlt : i < ds.length
  · have hd : ds[i]? = some ds[i] := List.getElem?_eq_getElem hlt
    obtain ⟨g1, g2⟩ := J2.1 _ hd
    rw [List.drop_eq_getElem_cons hlt] at h2
    refine .inr ⟨g1, fun σ' H' => ∃ O ρ, EnvR X.K P A O H' σ' ρ ∧ Step O1 H1 O H' ∧ AftS X.K X.mg W P A O H' (forM f m (ds.drop (i + 1)) ρ) D, fun σ' H' z => ⟨ds.length - (i + 1), by omega, rfl, hlt, z⟩, fun x H' y => ?_⟩
    obtain ⟨m1, rv⟩ := g2 x H' y
    have e3 : EnvR X.K P A O2 H' σ2 ρ2 := e2.more m1
    have s3 : Step O2 H2 O2 H' := Step.more m1
    unfold forM at h2
    have h3 : AftS X.K X.mg W P A O2 H' (M.bind (f (.tmp (.val ds[i]))) (fun _ => M.bind m fun fl => match fl with
      | .nx => forM f m (ds.drop (i + 1))
      | .ct => forM f m (ds.drop (i + 1))
      | .bk => .ret .nx
      | .rt r => .ret (.rt r)) ρ2) D := by
      rw [← bind_assoc]
      exact AftS.step h2 s3
    refine hf P A O2 H' σ2 ρ2 [] x (.tmp (.val ds[i])) _ D e3 (rr_val rv) h3 _ fun σ4 H4 O4 ρ4 e4 s4 h4 => ?_
    refine ⟨P, A, O4, ρ4, e4, ?_⟩
    have s5 : Step O1 H1 O4 H4 := (s2.trans s3).trans s4
    unfold M.bind at h4
    cases q : m ρ4 with
    | ok fl ρ5 =>
      rw [q] at h4
      cases fl with
      | nx => exact fun σ6 H6 O6 e6 s6 => ⟨O6, ρ5, e6, s5.trans s6, AftS.step h4 s6⟩
      | ct => exact fun σ6 H6 O6 e6 s6 => ⟨O6, ρ5, e6, s5.trans s6, AftS.step h4 s6⟩
      | bk => exact fun σ6 H6 O6 e6 s6 => h4 σ6 H6 O6 e6 s6
      | rt r => exact h4
    | exc x ρ5 =>
      rw [q] at h4
      exact h4
    | bad =>
      rw [q] at h4
      exact h4
  · have hl : i = ds.length := by omega
    rw [List.drop_of_length_le (by omega)] at h2
    exact .inl ⟨J2.2 (by omega), h2 σ2 H2 O2 e2 (Step.refl _ _)⟩
end
end DL

set_option Elab.async false
set_option maxRecDepth 100000
set_option maxHeartbeats 4000000
namespace DL
open PySem PySem.Spec PyProof.Rows L2
/-! ### values looked at -/
def looks : List R → Rho → Option (List D)
  | [], _ => some []
  | r :: rs, ρ => match look r ρ with
    | some d => (looks rs ρ).map (d :: ·)
    | none => none
section
variable {K : PySem.W.Frag} {P O : List Addr} {A : List V} {H H' : Hp} {σ : L2.St} {ρ ρ' : Rho} {v : V}
theorem looks_vr (e : EnvR K P A O H σ ρ) : ∀ {rs : List R} {vs : List V} {ds : List D} {F : List Addr}, RRs K P O H σ F vs rs → looks rs ρ = some ds → Paired (VR K (O ++ P) H) vs ds
  | [], _, ds, _, .nil, h => by
    cases h
    exact .nil
  | r :: rs, _, ds, _, .cons a b _, h => by
    unfold looks at h
    split at h
    · rename_i d q
      obtain ⟨es, q1, rfl⟩ := Option.map_eq_some_iff.mp h
      exact .cons (look_vr e a q) (looks_vr e b.less q1)
    · cases h
theorem Paired.rp {Z : List Addr} : ∀ {vs : List V} {ds : List D}, Paired (VR K Z H) vs ds → RpAll K H vs ds
  | _, _, .nil => .nil
  | _, _, .cons a b => .cons a.rp (Paired.rp b)
end
/-! ### defs -/
inductive FO where
  | ok (t : T)
  | exc (x : XD)
  | bad
def scalD : D → Bool
  | .none => true
  | .bool _ => true
  | .int _ => true
  | .str _ => true
  | _ => false
def T.scal : T → Bool
  | .val d => scalD d
  | _ => false
def T.untag : T → T
  | .val d => .val d
  | .lst _ ds => .lst none ds
def FAft (K : PySem.W.Frag) (mg : Str → Option Value) (P : List Addr) (H : Hp) (o : FO) (Q : VK) (E : XK) : Prop := match o with
  | .ok t => ∀ v H' F, (∀ a o, H a = some o → H' a = some o) → RepT K (F ++ P) H' v t F → (∀ a ∈ F, H a = none) → (∀ (k : Nat) (ds : List D), t ≠ T.lst (some k) ds) → Q v H'
  | .exc x => ∀ cls d H', (∀ a o, H a = some o → H' a = some o) → ExR K mg P H' x cls d → E cls d H'
  | .bad => False
def spF (K : PySem.W.Frag) (mg : Str → Option Value) (n : Nat) (f : List D → FO) : Sp := fun vs H Q E => ∃ P ds, ds.length = n ∧ RpAll K (wo P H) vs ds ∧ (∀ a ∈ P, ∃ o, H a = some o) ∧ FAft K mg P H (f ds) Q E
def runF (n : Nat) (m : M Fl) (ds : List D) : FO := match m (ds.map (fun d => some (T.val d)) ++ List.replicate n none) with
  | .ok .nx _ => .ok (.val .none)
  | .ok (.rt (.tmp t)) _ => .ok t
  | .ok (.rt (.slot i)) ρ => (match ρ[i]? with
    | some (some t) => .ok t.untag
    | _ => .bad)
  | .ok _ _ => .bad
  | .exc x _ => .exc x
  | .bad => .bad
section
variable {P : Program} {w : World} {K : PySem.W.Frag} {mg : Str → Option Value} {base : Heap} {x qual : Str} {params : Arguments} {body : List Stmt} {scope : Scope} {f : Addr} {fd : FuncData}
theorem RepT.untag {Z : List Addr} {H : Hp} {v : V} {t : T} {F : List Addr} (r : RepT K Z H v t F) : RepT K Z H v t.untag F := by
  cases r with
  | val h => exact .val h
  | lst h1 h2 h3 => exact .lst h1 h2 h3
theorem T.untag_no (t : T) (k : Nat) (ds : List D) : t.untag ≠ T.lst (some k) ds := by
  cases t <;> intro z <;> cases z
theorem start_env {N ps : List Str} {n : Nat} {Pr : List Addr} {H : Hp} {vs : List V} {ds : List D} (hN : N.length = ps.length + n) (hl : ds.length = ps.length) (rp : RpAll K (wo Pr H) vs ds) (hP : ∀ a ∈ Pr, ∃ o, H a = some o) :
    EnvR K Pr vs [] H (L2.start N vs) (ds.map (fun d => some (T.val d)) ++ List.replicate n none) := by
  have hv := rp.length
  have key : ∀ (i : Nat) (t : T), (ds.map (fun d => some (T.val d)) ++ List.replicate n none)[i]? = some (some t) → ∃ d, ds[i]? = some d ∧ t = .val d := by
    intro i t q
    by_cases hi : i < ds.length
    · rw [List.getElem?_append_left (by simpa using hi), List.getElem?_map] at q
      obtain ⟨d, q1, q2⟩ := Option.map_eq_some_iff.mp q
      cases q2
      exact ⟨d, q1, rfl⟩
    · rw [List.getElem?_append_right (by simpa using hi), List.getElem?_replicate] at q
      split at q <;> cases q
  refine ⟨?_, ⟨fun _ => [], fun i t q => ?_, fun i j _ a h => absurd h List.not_mem_nil⟩, fun a ha => ⟨List.not_mem_nil, hP a ha⟩, fun a ha => absurd ha List.not_mem_nil, fun i k ds' q => ?_⟩
  · simp only [L2.start, List.length_append, List.length_map, List.length_replicate]
    omega
  · obtain ⟨d, q1, rfl⟩ := key i t q
    obtain ⟨v, q2, r⟩ := rp.get q1
    refine ⟨v, ?_, .val r, fun a h => absurd h List.not_mem_nil⟩
    unfold L2.start
    rw [List.getElem?_append_left (by simpa using (List.getElem?_eq_some_iff.mp q2).1), List.getElem?_map, q2]
    rfl
  · obtain ⟨d, _, q⟩ := key i _ q
    cases q
theorem fn_ok {N ps : List Str} {k n : Nat} {m : M Fl} (F : FunD K x qual params body scope [] [] f fd) (S : FnScope N ps scope) (hN : N.length = ps.length + n)
    (hbody : ∀ (cdv : Value) (A : Around) (outer : List Env) (s : Shared) (H : Hp) (E : XK), Room k (A.deeper (envOfC qual scope s.heap.objs.size f cdv)) →
      JSs (cxOf (L2.CX P w) P w K mg base N qual scope f cdv A outer s H E) (fun cls d _ H => E cls d H) body m) : FnOk P w K mg base (L2.CX P w) (k + 1) f fd ps (spF K mg ps.length (runF n m)) := by
  refine F.ok S (fun vs H Q E h => ?_) (fun cdv A outer s H vs Q E hr h => ⟨_, hbody cdv A outer s H E hr, ?_⟩)
  · obtain ⟨Pr, ds, hl, rp, _⟩ := h
    rw [rp.length, hl]
  · obtain ⟨Pr, ds, hl, rp, hP, hf⟩ := h
    refine ⟨Pr, vs, [], _, start_env hN hl rp hP, ?_⟩
    show AftS K mg _ Pr vs [] H (m (ds.map (fun d => some (T.val d)) ++ List.replicate n none)) _
    unfold runF at hf
    have more : ∀ {O' H'}, Step [] H O' H' → ∀ a o, H a = some o → H' a = some o := fun s a o q => s.ext a o List.not_mem_nil q
    cases q : m (ds.map (fun d => some (T.val d)) ++ List.replicate n none) with
    | bad =>
      rw [q] at hf
      exact hf
    | exc x ρ' =>
      rw [q] at hf
      exact fun cls d σ' H' O' e r s => hf cls d H' (more s) (r.less fun a ha => List.mem_append_right _ ha)
    | ok fl ρ' =>
      rw [q] at hf
      cases fl with
      | nx => exact fun σ' H' O' e s => hf .non H' [] (more s) (.val .non) (fun _ h => absurd h List.not_mem_nil) (fun _ _ z => T.noConfusion z)
      | bk => exact hf.elim
      | ct => exact hf.elim
      | rt r =>
        intro v σ' H' O' F e r1 s
        have own : ∀ a ∈ F ++ O', H a = none := fun a ha => (s.own a ha).resolve_left List.not_mem_nil
        cases r with
        | tmp t =>
          obtain ⟨r2, r3, r4⟩ := r1
          refine hf v H' F (more s) (r2.keep (fun a o z => ?_) fun a ha => ⟨List.mem_append_left _ ha, rfl⟩) (fun a ha => own a (List.mem_append_left _ ha)) r4
          obtain ⟨z1, z2⟩ := wo_some.mp z
          simp only [List.mem_append, not_or] at z1
          exact wo_some.mpr ⟨by simp only [List.mem_append, not_or]; exact ⟨z1.1, z1.2.2⟩, z2⟩
        | slot i =>
          simp only at hf
          split at hf
          · rename_i t qi
            obtain ⟨Fs, h1, h2⟩ := e.at_
            obtain ⟨w', e1, r2, hO⟩ := h1 i t qi
            have r1' : σ'[i]? = some (some v) := r1
            rw [e1] at r1'
            cases r1'
            refine hf v H' (Fs i) (more s) ((RepT.keep r2 (fun a o z => ?_) fun a ha => ⟨List.mem_append_left _ ha, rfl⟩).untag) (fun a ha => own a (List.mem_append_right _ (hO a ha))) (T.untag_no t)
            obtain ⟨z1, z2⟩ := wo_some.mp z
            simp only [List.mem_append, not_or] at z1
            exact wo_some.mpr ⟨by simp only [List.mem_append, not_or]; exact ⟨fun y => z1.1 (hO a y), z1.2.2⟩, z2⟩
          · exact hf.elim
end
/-! ### a call of an own def -/
def callS (f : List D → FO) (rs : List R) : M R := M.bind (frzs rs) fun ds ρ => match f ds with
  | .ok t => .ok (.tmp t) ρ
  | .exc x => .exc x ρ
  | .bad => .bad
def callM (f : List D → FO) (rs : List R) : M R := fun ρ => match looks rs ρ with
  | some ds => (match f ds with
    | .ok t => if t.scal then .ok (.tmp t) ρ else callS f rs ρ
    | .exc _ => callS f rs ρ
    | .bad => .bad)
  | none => .bad
section
variable {X : Cx} {W : WX} {k n : Nat} {f : Addr} {fd : FuncData} {ps : List Str} {g : List D → FO} {x : Str} {p pos : Pos} {e : Expr} {es : List Expr} {ms : M (List R)}
theorem callS_ok {K : PySem.W.Frag} {mg : Str → Option Value} {P O F : List Addr} {A : List V} {H : Hp} {σ : L2.St} {ρ : Rho} {vs : List V} {rs : List R} {Q : VK} (e : EnvR K (F ++ P) A O H σ ρ) (r : RRs K P O H σ F vs rs)
    (h : Aft (relR K σ) K mg W P A σ O H (callS g rs ρ) Q) (hn : ∀ ds ρ', frzs rs ρ = .ok ds ρ' → ds.length = n) : spF K mg n g vs H Q (WE W σ) := by
  unfold callS M.bind at h
  cases q : frzs rs ρ with
  | bad =>
    rw [q] at h
    exact h.elim
  | exc x ρ' => exact (frzs_noexc q).elim
  | ok ds ρ' =>
    rw [q] at h
    simp only at h
    obtain ⟨O', e', s', rp⟩ := frzs_ok e r q
    refine ⟨O' ++ P, ds, hn ds ρ' q, rp, fun a ha => (List.mem_append.mp ha).elim (e'.trk a) (fun z => (e'.prot a z).2), ?_⟩
    cases qf : g ds with
    | bad =>
      rw [qf] at h
      exact h.elim
    | exc x =>
      rw [qf] at h
      exact fun cls d H' m ex => h cls d H' O' (e'.more m) ex (s'.trans (Step.more m))
    | ok t =>
      rw [qf] at h
      intro v H' F' m rep fr nt
      have hF : ∀ a ∈ F', H a = none ∧ ∃ o, H' a = some o := fun a ha => ⟨fr a ha, (rep.in a ha).2⟩
      have s2 : Step O H (F' ++ O') H' := ⟨fun a ha => (List.mem_append.mp ha).elim (fun z => .inr (fr a z)) (s'.own a), fun a o z q => m a o (s'.ext a o z q), fun a o q => ⟨o, m a o q⟩⟩
      refine h v H' O' F' (e'.new m hF) ⟨rep, fun a ha z => ?_, nt⟩ s2
      obtain ⟨_, o, y⟩ := e'.prot a z
      rw [fr a ha] at y
      cases y
theorem frzs_len : ∀ {rs : List R} {ds : List D} {ρ ρ' : Rho}, frzs rs ρ = .ok ds ρ' → ds.length = rs.length
  | [], _, _, _, h => by cases h; rfl
  | r :: rs, ds, ρ, ρ', h => by
    unfold frzs M.bind at h
    cases q : frz r ρ with
    | bad => rw [q] at h; cases h
    | exc x ρ1 => rw [q] at h; cases h
    | ok d ρ1 =>
      rw [q] at h
      simp only at h
      cases q2 : frzs rs ρ1 with
      | bad => rw [q2] at h; cases h
      | exc x ρ2 => rw [q2] at h; cases h
      | ok es ρ2 =>
        rw [q2] at h
        cases h
        rw [List.length_cons, List.length_cons, frzs_len q2]
theorem looks_len : ∀ {rs : List R} {ds : List D} {ρ : Rho}, looks rs ρ = some ds → ds.length = rs.length
  | [], _, _, h => by cases h; rfl
  | r :: rs, ds, ρ, h => by
    unfold looks at h
    split at h
    · obtain ⟨es, q1, rfl⟩ := Option.map_eq_some_iff.mp h
      rw [List.length_cons, List.length_cons, looks_len q1]
    · cases h
theorem callM_ok {K : PySem.W.Frag} {mg : Str → Option Value} {P O F : List Addr} {A : List V} {H : Hp} {σ : L2.St} {ρ : Rho} {vs : List V} {rs : List R} {Q : VK} (e : EnvR K (F ++ P) A O H σ ρ) (r : RRs K P O H σ F vs rs)
    (h : Aft (relR K σ) K mg W P A σ O H (callM g rs ρ) Q) (hn : rs.length = n) : spF K mg n g vs H Q (WE W σ) := by
  unfold callM at h
  cases q : looks rs ρ with
  | none =>
    rw [q] at h
    exact h.elim
  | some ds =>
    rw [q] at h
    simp only at h
    have slow : Aft (relR K σ) K mg W P A σ O H (callS g rs ρ) Q → spF K mg n g vs H Q (WE W σ) := fun h => callS_ok e r h fun ds ρ' z => (frzs_len z).trans hn
    cases qf : g ds with
    | bad =>
      rw [qf] at h
      exact h.elim
    | exc x =>
      rw [qf] at h
      exact slow h
    | ok t =>
      rw [qf] at h
      simp only at h
      by_cases ht : t.scal = true
      · rw [if_pos ht] at h
        refine ⟨[], ds, (looks_len q).trans hn, by rw [wo_nil]; exact Paired.rp (looks_vr e.less r q), fun a ha => absurd ha List.not_mem_nil, ?_⟩
        rw [qf]
        intro v H' F' m rep fr nt
        cases t with
        | lst a b => cases ht
        | val d =>
          cases rep with
          | val rp =>
            have rp0 : Rp K (fun _ => none) v d := by
              cases rp with
              | non => exact .non
              | bl b => exact .bl b
              | int i => exact .int i
              | str i => exact .str i
              | lst _ _ => cases ht
              | tup _ _ => cases ht
            exact h v H' O [] (e.less.more m) ⟨.val (rp0.mono fun _ _ z => by cases z), fun _ z => absurd z List.not_mem_nil, nt⟩ (Step.more m)
      · rw [if_neg ht] at h
        exact slow h
theorem j_call (F : FnOk X.prog X.w X.K X.mg X.base (L2.CX X.prog X.w) k f fd ps (spF X.K X.mg (es.length + 1) g)) (hr : Room k X.A) (tk : Takes X W) (hg : Gl X x) (hm : X.mg x = some (.ref f)) (hk : PySem.W.keepIn X.K (.ref f) = true) (hb : Binds X.K fd ps [])
    (ha : JEs X W (e :: es) ms) (hl : ∀ ρ rs ρ', ms ρ = .ok rs ρ' → rs.length = es.length + 1) (hdb : (x == ("__debug__" : Str)) = false) (he : starEach (e :: es) X.env = (false, eval e X.env) :: starEach es X.env) (hpl : (backTo pos (starEach es X.env)).any (·.1) = false) :
    JE X W (.Call (.Name x p) (e :: es) [] pos) (M.bind ms (callM g)) := (pe_callS (E := WE W) F hr hg hm hk hb (fun σ => passAt tk σ) ha hdb he hpl).imp fun σ H Q h => by
  obtain ⟨P, A, O, ρ, e, h⟩ := h
  cases q : ms ρ with
  | bad =>
    unfold M.bind at h
    rw [q] at h
    exact h.elim
  | exc x ρ1 =>
    refine ⟨P, A, O, ρ, e, ?_⟩
    unfold M.bind at h
    rw [q] at h ⊢
    exact h
  | ok rs ρ1 =>
    refine ⟨P, A, O, ρ, e, ?_⟩
    unfold M.bind at h
    rw [q] at h ⊢
    intro vs H1 O1 F1 e1 r1 s1
    exact callM_ok e1 r1 (Aft.step h s1.less) (hl ρ rs ρ1 q)
end
/-! ### built-in functions -/
def opN (f : List D → Option T) (rs : List R) : M R := fun ρ => match looks rs ρ with
  | some ds => (match f ds with
    | some t => .ok (.tmp t) ρ
    | none => .bad)
  | none => .bad
def CallOk (K : PySem.W.Frag) (r : List V → Hp → VK → Prop) (f : List D → Option T) : Prop := ∀ (Z : List Addr) (H : Hp) (vs : List V) (ds : List D) (t : T) (Q : VK), (∀ p, H p = none → p ∉ Z) → Paired (VR K Z H) vs ds → f ds = some t →
  (∀ v H', NewT K Z H H' v t → Q v H') → r vs H Q
section
variable {X : Cx} {W : WX} {x : Str} {p pos : Pos} {e : Expr} {es : List Expr} {ms : M (List R)} {id : String} {r : List V → Hp → VK → Prop} {g : List D → Option T}
theorem opN_ok {K : PySem.W.Frag} {mg : Str → Option Value} {P O F : List Addr} {A : List V} {H : Hp} {σ : L2.St} {ρ : Rho} {vs : List V} {rs : List R} {Q : VK} (hf : CallOk K r g) (e : EnvR K P A O H σ ρ) (r1 : RRs K P O H σ F vs rs)
    (h : Aft (relR K σ) K mg W P A σ O H (opN g rs ρ) Q) : r vs H Q := by
  unfold opN at h
  split at h
  · rename_i ds q
    split at h
    · rename_i t qt
      exact hf (O ++ P) H vs ds t Q (fun p hp => e.fresh hp) (looks_vr e r1 q) qt fun v H' n => h.tmp e n
    · exact h.elim
  · exact h.elim
theorem j_callB (hc : CallR X (.builtin id) r) (hf : CallOk X.K r g) (hg : Gl X x) (hm : X.mg x = none) (hv : bootBuiltins x = some (.builtin id)) (ha : JEs X W (e :: es) ms) (hn : x ≠ "__name__") (hdb : (x == ("__debug__" : Str)) = false)
    (he : starEach (e :: es) X.env = (false, eval e X.env) :: starEach es X.env) (hpl : (backTo pos (starEach es X.env)).any (·.1) = false) : JE X W (.Call (.Name x p) (e :: es) [] pos) (M.bind ms (opN g)) :=
  (pe_callB hc hg hm hv ha hn hdb he hpl).imp fun σ H Q h => by
    obtain ⟨P, A, O, ρ, e, h⟩ := h
    refine ⟨P, A, O, ρ, e, (Aft.bind (rl := relRs X.K σ) h).mono ?_⟩
    rintro vs H1 ⟨O1, ρ1, rs, F, e1, r1, s1, h1⟩
    exact opN_ok hf e1.less r1 (h1.step s1.less)
theorem j_callTy (hc : CallR X (.type id) r) (hf : CallOk X.K r g) (hg : Gl X x) (hm : X.mg x = none) (hv : bootBuiltins x = some (.type id)) (ha : JEs X W (e :: es) ms) (hn : x ≠ "__name__") (hdb : (x == ("__debug__" : Str)) = false)
    (he : starEach (e :: es) X.env = (false, eval e X.env) :: starEach es X.env) (hpl : (backTo pos (starEach es X.env)).any (·.1) = false) : JE X W (.Call (.Name x p) (e :: es) [] pos) (M.bind ms (opN g)) :=
  (pe_callTy hc hg hm hv ha hn hdb he hpl).imp fun σ H Q h => by
    obtain ⟨P, A, O, ρ, e, h⟩ := h
    refine ⟨P, A, O, ρ, e, (Aft.bind (rl := relRs X.K σ) h).mono ?_⟩
    rintro vs H1 ⟨O1, ρ1, rs, F, e1, r1, s1, h1⟩
    exact opN_ok hf e1.less r1 (h1.step s1.less)
def fLen : List D → Option T
  | [.list ds] => some (.val (.int ds.length))
  | [.tuple ds] => some (.val (.int ds.length))
  | [.str z] => if z.length ≤ sizeLine then some (.val (.int z.length)) else none
  | _ => none
theorem len_ok {K : PySem.W.Frag} : CallOk K (fun xs H Q => ∃ x n, xs = [x] ∧ LenV K x H n ∧ Q (.int n) H) fLen := by
  intro Z H vs ds t Q hz hv hf q
  unfold fLen at hf
  split at hf
  · cases hf
    cases hv with
    | cons a b =>
      cases b
      obtain ⟨p, ws, rfl, h1, h2⟩ := a.list
      refine ⟨_, ws.length, rfl, .inl ⟨ws, h1, rfl⟩, ?_⟩
      rw [h2.length]
      exact q _ _ (NewT.scal (.int _))
  · cases hf
    cases hv with
    | cons a b =>
      cases b
      obtain ⟨p, ws, rfl, h1, h2, _⟩ := a.tuple
      refine ⟨_, ws.length, rfl, .inr ⟨ws, h1, rfl⟩, ?_⟩
      rw [h2.length]
      exact q _ _ (NewT.scal (.int _))
  · split at hf
    · rename_i hl
      cases hf
      cases hv with
      | cons a b =>
        cases b
        cases a.str
        exact ⟨_, _, rfl, ⟨hl, rfl⟩, q _ _ (NewT.scal (.int _))⟩
    · cases hf
  · cases hf
def fAbs : List D → Option T
  | [.int i] => some (.val (.int i.natAbs))
  | _ => none
theorem abs_ok {K : PySem.W.Frag} : CallOk K (fun xs H Q => ∃ i, xs = [.int i] ∧ Q (.int (if i < 0 then -i else i)) H) fAbs := by
  intro Z H vs ds t Q hz hv hf q
  unfold fAbs at hf
  split at hf
  · cases hf
    cases hv with
    | cons a b =>
      cases b
      cases a.int
      rename_i i
      refine ⟨i, rfl, ?_⟩
      have e : (if i < 0 then -i else i) = (i.natAbs : Int) := by split <;> omega
      rw [e]
      exact q _ _ (NewT.scal (.int _))
  · cases hf
/-! ### isinstance -/
def tyD : D → String
  | .none => "NoneType"
  | .bool _ => "bool"
  | .int _ => "int"
  | .str _ => "str"
  | .list _ => "list"
  | .tuple _ => "tuple"
  | .dict _ => "dict"
theorem TyX.rp {K : PySem.W.Frag} {H : Hp} {v : V} {d : D} (h : Rp K H v d) : TyX K H v (.type (tyD d)) := by
  cases h with
  | non => exact .base .non
  | bl b => exact .base (.bl b)
  | int i => exact .base (.int i)
  | str i => exact .base (.str i)
  | lst h1 h2 =>
    rcases h1 with (e | ⟨o, e⟩) | ⟨o, its, n, e, c, _⟩
    · exact .base (.lst e)
    · exact .base (.frz e)
    · exact .kList e c
  | tup h1 h2 =>
    rcases h1 with (e | ⟨o, e⟩) | ⟨o, its, n, e, c, _⟩
    · exact .base (.tup e)
    · exact .fTuple e
    · exact .kTuple e c
def fIsi (b : D → Bool) : List D → Option T
  | [d] => some (.val (.bool (b d)))
  | _ => none
theorem j_isi {T0 : String} {T1 : Str} {b : D → Bool} {ma : M R} {p2 : Pos} (hb : ∀ d, kitB (tyD d) T0 = some (b d)) (hg : Gl X "isinstance") (hm : X.mg "isinstance" = none) (hg2 : Gl X T1) (hm2 : X.mg T1 = none) (hv : bootBuiltins T1 = some (.type T0)) (ha : JE X W e ma)
    (hn : T1 ≠ "__name__") (hdb : (T1 == ("__debug__" : Str)) = false)
    (he : starEach [e, .Name T1 p2] X.env = (false, eval e X.env) :: starEach [.Name T1 p2] X.env) (he2 : starEach [.Name T1 p2] X.env = (false, eval (.Name T1 p2) X.env) :: starEach [] X.env) (hpl : (backTo pos (starEach [.Name T1 p2] X.env)).any (·.1) = false) :
    JE X W (.Call (.Name "isinstance" p) [e, .Name T1 p2] [] pos) (M.bind ma fun r => opN (fIsi b) [r]) :=
  (pe_callB (call_isi (X := X)) hg hm (by decide +kernel) (pa_cons ha (pa_cons (pe_bltn (v := .ty T0) hg2 hm2 hv rfl hn hdb) pa_nil he2) he) (by decide) (by decide) he hpl).imp fun σ H Q h => by
    obtain ⟨P, A, O, ρ, e, h⟩ := h
    refine ⟨P, A, O, ρ, e, (Aft.bind (rl := relR X.K σ) h).mono ?_⟩
    rintro v H1 ⟨O1, ρ1, r, F, e1, r1, s1, h1⟩
    unfold opN at h1
    split at h1
    · rename_i ds q
      unfold looks at q
      split at q
      · rename_i d qd
        cases q
        have vr := look_vr e1.less r1 qd
        exact ⟨v, _, _, _, b d, rfl, .ty _, TyX.rp vr.rp, kit_ty (hb d), (h1.step s1.less).tmp e1.less (NewT.scal (.bl _))⟩
      · cases q
    · exact h1.elim
def isInt : D → Bool
  | .int _ => true
  | .bool _ => true
  | _ => false
def isBool : D → Bool
  | .bool _ => true
  | _ => false
def isStr : D → Bool
  | .str _ => true
  | _ => false
def isTup : D → Bool
  | .tuple _ => true
  | _ => false
def isList : D → Bool
  | .list _ => true
  | _ => false
theorem kit_int : ∀ d, kitB (tyD d) "int" = some (isInt d) := fun d => by cases d <;> (simp only [tyD, isInt]; decide +kernel)
theorem kit_bool : ∀ d, kitB (tyD d) "bool" = some (isBool d) := fun d => by cases d <;> (simp only [tyD, isBool]; decide +kernel)
theorem kit_str : ∀ d, kitB (tyD d) "str" = some (isStr d) := fun d => by cases d <;> (simp only [tyD, isStr]; decide +kernel)
theorem kit_tup : ∀ d, kitB (tyD d) "tuple" = some (isTup d) := fun d => by cases d <;> (simp only [tyD, isTup]; decide +kernel)
theorem kit_list : ∀ d, kitB (tyD d) "list" = some (isList d) := fun d => by cases d <;> (simp only [tyD, isList]; decide +kernel)
/-! ### append -/
def chkL (r : R) : M Unit := fun ρ => match look r ρ with
  | some (.list _) => .ok () ρ
  | _ => .bad
def apM (ro : R) (d : D) : M R := mutM ro fun ds => if ds.length < sizeLine then some (ds ++ [d], .tmp (.val .none)) else none
theorem j_append {o a : Expr} {mo ma : M R} {apos cpos : Pos} (ho : JE X W o mo) (ha : JE X W a ma) (hs : starEach [a] X.env = (false, eval a X.env) :: starEach [] X.env) (hbase : attributeBase o "append" X.env (eval o X.env) = eval o X.env)
    (hfew : ((backTo cpos (starEach [a] X.env)).all (fun x => !x.1) && (backToKw cpos (keywordEach [] X.env)).all (fun x => x.1.isSome) && decide ([a].length + ([] : List Keyword).length + (if ([] : List Keyword).isEmpty then 0 else 1) < 30)) = true)
    (hline : (apos.endLine == cpos.line) = true) (hplain : (backTo cpos (starEach [] X.env)).any (·.1) = false) :
    JE X W (.Call (.Attribute o "append" apos) [a] [] cpos) (M.bind mo fun ro => M.bind (chkL ro) fun _ => M.bind ma fun ra => M.bind (frz ra) fun d => apM ro d) :=
  (pe_bm PySem.F.plainAttrs_list PySem.F.slot_list_append PySem.F.type_list_append mt_append ho (pa_cons ha pa_nil hs) hbase hfew hline hs hplain).imp fun σ H Q h => by
    obtain ⟨P, A, O, ρ, e, h⟩ := h
    refine ⟨P, A, O, ρ, e, (Aft.bind (rl := relR X.K σ) h).mono ?_⟩
    rintro x H1 ⟨O1, ρ1, ro, F, e1, r1, s1, h1⟩
    unfold M.bind chkL at h1
    cases q : look ro ρ1 with
    | none =>
      rw [q] at h1
      exact h1.elim
    | some dl =>
      rw [q] at h1
      cases dl with
      | list ds =>
        simp only at h1
        obtain ⟨a, ws, rfl, rd, _⟩ := (look_vr e1.less r1 q).list
        refine ⟨.inl ⟨rfl, ws, rd⟩, ?_⟩
        refine ⟨F ++ P, A, O1, ρ1, e1, (Aft.bindP (rl := relR X.K σ) F s1.less (m := ma) (k := fun ra => M.bind (frz ra) fun d => apM ro d) h1).mono ?_⟩
        rintro y H2 ⟨O2, ρ2, ra, G, e2, r2, s2, h2⟩
        have h3 := Aft.step h2 (s1.less.trans s2.less)
        have e2' : EnvR X.K (G ++ P) A O2 H2 σ ρ2 := e2.swap.less
        obtain ⟨O3, ρ3, d, e3, s3, p3, _, h4⟩ := Aft.frz e2' r2.less h3
        show rAppend (.ref a) [y] H2 Q
        cases ro with
        | tmp t => exact h4.elim
        | slot i =>
          unfold apM mutM at h4
          simp only at h4
          cases qi : ρ3[i]? with
          | none => rw [qi] at h4; exact h4.elim
          | some u =>
            cases u with
            | none => rw [qi] at h4; exact h4.elim
            | some u =>
              cases u with
              | val _ => rw [qi] at h4; exact h4.elim
              | lst tag es =>
                rw [qi] at h4
                simp only at h4
                obtain ⟨b, zs, eb, m2, m3, m4, m5⟩ := e3.own qi (show σ[i]? = some (some (V.ref a)) from r1)
                cases eb
                by_cases hl : es.length < sizeLine
                · rw [if_pos hl] at h4
                  simp only at h4
                  obtain ⟨e5, s5⟩ := m5 (zs ++ [y]) (es ++ [d]) (m3.append (.cons p3 .nil))
                  refine ⟨a, zs, y, rfl, rfl, m2, by rw [m3.length]; exact hl, ?_⟩
                  exact h4 .non _ O3 [] e5 (rr_val .non) s5
                · rw [if_neg hl] at h4
                  exact h4.elim
      | _ => exact h1.elim
end
end DL

set_option Elab.async false
set_option maxRecDepth 100000
set_option maxHeartbeats 4000000
namespace DL
open PySem PySem.Spec PyProof.Rows L2
/-! ### while, without fuel -/
/-- one turn -/
def turn (tb : M Bool) (m : M Fl) (w : M Fl) : M Fl := M.bind tb fun b => if b then M.bind m (fun f => match f with
    | .nx => w
    | .ct => w
    | .bk => .ret .nx
    | .rt r => .ret (.rt r)) else .ret .nx
theorem turn_eq (tb : M Bool) (m g : M Fl) (ρ : Rho) : turn tb m g ρ = match tb ρ with
    | .ok true ρ1 => (match m ρ1 with
      | .ok .nx ρ2 => g ρ2
      | .ok .ct ρ2 => g ρ2
      | .ok .bk ρ2 => .ok .nx ρ2
      | .ok (.rt r) ρ2 => .ok (.rt r) ρ2
      | .exc x ρ2 => .exc x ρ2
      | .bad => .bad)
    | .ok false ρ1 => .ok .nx ρ1
    | .exc x ρ1 => .exc x ρ1
    | .bad => .bad := by
  unfold turn M.bind
  cases e : tb ρ with
  | bad => rfl
  | exc x ρ1 => rfl
  | ok c ρ1 =>
    cases c with
    | false => rfl
    | true =>
      dsimp only
      rw [if_pos rfl]
      cases e2 : m ρ1 with
      | bad => rfl
      | exc x ρ2 => rfl
      | ok fl ρ2 => cases fl <;> rfl
theorem turn_key (tb : M Bool) (m : M Fl) (ρ : Rho) : (∀ g', turn tb m g' ρ = turn tb m .bad ρ) ∨ ∃ ρ2, ∀ g', turn tb m g' ρ = g' ρ2 := by
  simp only [turn_eq]
  cases e : tb ρ with
  | bad => exact .inl fun _ => rfl
  | exc x ρ1 => exact .inl fun _ => rfl
  | ok c ρ1 =>
    cases c with
    | false => exact .inl fun _ => rfl
    | true =>
      dsimp only
      cases e2 : m ρ1 with
      | bad => exact .inl fun _ => rfl
      | exc x ρ2 => exact .inl fun _ => rfl
      | ok fl ρ2 =>
        cases fl with
        | nx => exact .inr ⟨ρ2, fun _ => rfl⟩
        | ct => exact .inr ⟨ρ2, fun _ => rfl⟩
        | bk => exact .inl fun _ => rfl
        | rt r => exact .inl fun _ => rfl
theorem whileM_turn (tb : M Bool) (m : M Fl) (n : Nat) (ρ : Rho) : whileM tb m (n + 1) ρ = turn tb m (whileM tb m n) ρ := rfl
theorem whileM_up {tb : M Bool} {m : M Fl} : ∀ (n : Nat) (ρ : Rho), whileM tb m n ρ ≠ .bad → whileM tb m (n + 1) ρ = whileM tb m n ρ
  | 0, _, h => (h rfl).elim
  | n + 1, ρ, h => by
    rw [whileM_turn] at h ⊢
    rw [whileM_turn]
    rcases turn_key tb m ρ with k | ⟨ρ2, k⟩
    · rw [k (whileM tb m (n + 1)), k (whileM tb m n)]
    · rw [k] at h ⊢
      rw [k]
      exact whileM_up n ρ2 h
theorem whileM_ups {tb : M Bool} {m : M Fl} {n : Nat} {ρ : Rho} (h : whileM tb m n ρ ≠ .bad) : ∀ k, whileM tb m (n + k) ρ = whileM tb m n ρ
  | 0 => rfl
  | k + 1 => by
    have e := whileM_ups h k
    rw [← e] at h
    rw [← e]
    exact whileM_up (n + k) ρ h
theorem whileM_two {tb : M Bool} {m : M Fl} {n k : Nat} {ρ : Rho} (h : whileM tb m n ρ ≠ .bad) (h2 : whileM tb m k ρ ≠ .bad) : whileM tb m n ρ = whileM tb m k ρ := by
  rw [← whileM_ups h k, ← whileM_ups h2 n, Nat.add_comm]
open Classical in
noncomputable def whileC (tb : M Bool) (m : M Fl) : M Fl := fun ρ => if h : ∃ n, whileM tb m n ρ ≠ .bad then whileM tb m (Classical.choose h) ρ else .bad
theorem whileC_of {tb : M Bool} {m : M Fl} {n : Nat} {ρ : Rho} (h : whileM tb m n ρ ≠ .bad) : whileC tb m ρ = whileM tb m n ρ := by
  unfold whileC
  rw [dif_pos ⟨n, h⟩]
  exact whileM_two (Classical.choose_spec (⟨n, h⟩ : ∃ n, whileM tb m n ρ ≠ .bad)) h
theorem whileC_bad {tb : M Bool} {m : M Fl} {ρ : Rho} (h : ¬ ∃ n, whileM tb m n ρ ≠ .bad) : whileC tb m ρ = .bad := by
  unfold whileC
  rw [dif_neg h]
theorem whileC_turn (tb : M Bool) (m : M Fl) (ρ : Rho) : whileC tb m ρ = turn tb m (whileC tb m) ρ := by
  have up : ∀ n, whileM tb m (n + 1) ρ = turn tb m (whileM tb m n) ρ := fun n => rfl
  rcases turn_key tb m ρ with h | ⟨ρ2, h⟩
  · rw [h (whileC tb m)]
    by_cases hb : turn tb m .bad ρ = .bad
    · rw [hb]
      refine whileC_bad fun ⟨n, hn⟩ => ?_
      cases n with
      | zero => exact hn rfl
      | succ n => exact hn (by rw [up, h, hb])
    · have e : whileM tb m 1 ρ = turn tb m .bad ρ := by rw [up, h]
      rw [whileC_of (n := 1) (by rw [e]; exact hb), e]
  · rw [h (whileC tb m)]
    by_cases hx : ∃ n, whileM tb m n ρ2 ≠ .bad
    · obtain ⟨n, hn⟩ := hx
      have e : whileM tb m (n + 1) ρ = whileM tb m n ρ2 := by rw [up, h]
      rw [whileC_of hn, whileC_of (n := n + 1) (by rw [e]; exact hn), e]
    · rw [whileC_bad hx]
      refine whileC_bad fun ⟨n, hn⟩ => ?_
      cases n with
      | zero => exact hn rfl
      | succ n => exact hx ⟨n, by rw [← h (whileM tb m n), ← up]; exact hn⟩
section
variable {X : Cx} {W : WX} {a b c e : Expr} {es : List Expr} {pos : Pos} {ma mb mc : M R} {ms : M (List R)} {tb : M Bool} {m : M Fl}
theorem js_whileC {c : Expr} {sb : List Stmt} (hp : PassesOwn (model X.prog X.w) X.A X.env X.xe) (hc : JB X W c tb) (hb : JSs X W sb m) : JS X W (.While c sb [] pos) (whileC tb m) := ⟨fun pins s σ H D I h => by
  obtain ⟨P, A, O, ρ, e, h⟩ := h
  by_cases hx : ∃ n, whileM tb m n ρ ≠ .bad
  · obtain ⟨n, hn⟩ := hx
    rw [whileC_of hn] at h
    exact (js_while n hp hc hb).run pins s σ H D I ⟨P, A, O, ρ, e, h⟩
  · rw [whileC_bad hx] at h
    exact h.elim⟩
end
/-! ### words in short -/
abbrev bin (f : D → D → Option T) (ma mb : M R) : M R := M.bind ma fun ra => M.bind mb fun rb => op2 f ra rb
abbrev un (f : D → Option T) (ma : M R) : M R := M.bind ma (op1 f)
abbrev cst (d : D) : M R := M.ret (.tmp (.val d))
abbrev argN : M (List R) := M.ret []
abbrev argC (ma : M R) (ms : M (List R)) : M (List R) := M.bind ma fun r => M.bind ms fun rs => .ret (r :: rs)
abbrev tupM (ms : M (List R)) : M R := M.bind ms mkTup
abbrev lstM (ms : M (List R)) : M R := M.bind ms mkLst
abbrev callF (g : List D → FO) (ms : M (List R)) : M R := M.bind ms (callM g)
abbrev callB (g : List D → Option T) (ms : M (List R)) : M R := M.bind ms (opN g)
abbrev isi (b : D → Bool) (ma : M R) : M R := M.bind ma fun r => opN (fIsi b) [r]
abbrev tst (ma : M R) : M Bool := M.bind ma asB
abbrev tcmp (f : D → D → Option T) (ma mb : M R) : M Bool := M.bind (bin f ma mb) asB
abbrev notT (tb : M Bool) : M Bool := M.bind tb fun c => .ret (!c)
abbrev notV (ma : M R) : M R := M.bind ma fun r => M.bind (asB r) fun c => .ret (.tmp (.val (.bool (!c))))
abbrev ifE (tc : M Bool) (ma mb : M R) : M R := M.bind tc fun c => if c then ma else mb
abbrev ifS (tc : M Bool) (m1 m2 : M Fl) : M Fl := M.bind tc fun c => if c then m1 else m2
abbrev setS (i : Nat) (ma : M R) : M Fl := M.bind ma fun r => M.bind (asgR i r) fun _ => .ret .nx
abbrev retS (ma : M R) : M Fl := M.bind ma fun r => .ret (.rt r)
abbrev exS (ma : M R) : M Fl := M.bind ma fun _ => .ret .nx
abbrev nilS : M Fl := M.ret .nx
abbrev apE (mo ma : M R) : M R := M.bind mo fun ro => M.bind (chkL ro) fun _ => M.bind ma fun ra => M.bind (frz ra) fun d => apM ro d
abbrev parS (is : List Nat) (ms : M (List R)) : M Fl := M.bind ms (parM is)
abbrev forS (f : R → M Unit) (mi : M (List D)) (m : M Fl) : M Fl := M.bind mi (forM f m)
abbrev itA (ma : M R) : M (List D) := M.bind ma items
abbrev itR1 (ms : M (List R)) : M (List D) := M.bind ms rng1
abbrev itR2 (ms : M (List R)) : M (List D) := M.bind ms rng2
abbrev slM (ma : M R) (ml mh : M (Option Int)) : M R := M.bind ma fun ra => M.bind ml fun l => M.bind mh fun u => opSl ra l u
abbrev asgS (f : R → M Unit) (ma : M R) : M Fl := M.bind ma fun r => M.bind (f r) fun _ => .ret .nx
abbrev fLt : D → D → Option T := fCmpI fun i j => decide (i < j)
abbrev fLe : D → D → Option T := fCmpI fun i j => decide (i ≤ j)
abbrev fGt : D → D → Option T := fCmpI fun i j => decide (j < i)
abbrev fGe : D → D → Option T := fCmpI fun i j => decide (j ≤ i)
theorem hu64 {A : Around} {k : Nat} (hr : Room k A) : A.units + 64 < cLine := by have := hr.un; omega
theorem hu65 {A : Around} {k : Nat} (hr : Room k A) : A.units + 65 < cLine := by have := hr.un; omega
theorem lenN : ∀ (ρ : Rho) (rs : List R) (ρ' : Rho), argN ρ = .ok rs ρ' → rs.length = 0 := fun ρ rs ρ' h => by
  cases h
  rfl
theorem lenC {ma : M R} {ms : M (List R)} {n : Nat} (h : ∀ (ρ : Rho) (rs : List R) (ρ' : Rho), ms ρ = .ok rs ρ' → rs.length = n) : ∀ (ρ : Rho) (rs : List R) (ρ' : Rho), argC ma ms ρ = .ok rs ρ' → rs.length = n + 1 := fun ρ rs ρ' q => by
  unfold argC M.bind at q
  cases e : ma ρ with
  | bad => rw [e] at q; cases q
  | exc x ρ1 => rw [e] at q; cases q
  | ok r ρ1 =>
    rw [e] at q
    dsimp only at q
    cases e2 : ms ρ1 with
    | bad => rw [e2] at q; cases q
    | exc x ρ2 => rw [e2] at q; cases q
    | ok rs2 ρ2 =>
      rw [e2] at q
      cases q
      rw [List.length_cons, h _ _ _ e2]
/-! ### the law's end -/
theorem _root_.L2.FnOk.calm {P : Program} {w : World} {K : PySem.W.Frag} {mg : Str → Option Value} {base : Heap} {k : Nat} {f : Addr} {fd : FuncData} {ps : List Str} {sp : Sp} (F : FnOk P w K mg base (L2.CX P w) k f fd ps sp) :
    FnOk P w K mg base L2.CX0 k f fd ps (fun vs H Q _ => sp vs H Q (fun _ _ _ => False)) :=
  ⟨fun vs H Q E h => F.len _ _ _ _ h, fun A outer s H args us vs Q E hr he hb hv hs => codeAny_mono (F.run A outer s H args us vs Q _ hr he hb hv hs) fun r s' hq => by
    cases r with
    | ok fl => cases fl <;> exact hq
    | error e =>
      obtain ⟨a, B, H', cls, d, _, _, _, _, _, _, _, z⟩ := hq
      exact z.elim⟩
theorem rp_ints {K : PySem.W.Frag} {H : Hp} : ∀ ns : List Int, RpAll K H (ns.map V.int) (ns.map PyData.int)
  | [] => .nil
  | n :: ns => .cons (.int n) (rp_ints ns)
theorem law_sp {K : PySem.W.Frag} {mg : Str → Option Value} {H : Hp} {a : Addr} {ns : List Int} {f : List D → FO} (h : f [.list (ns.map PyData.int)] = .ok (.val (.bool true))) (hS : SqL K H a (ns.map V.int)) :
    spF K mg 1 f [.ref a] H (fun v _ => v = .bl true) (fun _ _ _ => False) := by
  refine ⟨[], _, rfl, .cons (.lst (by rw [wo_nil]; exact hS) (rp_ints ns)) .nil, fun _ z => absurd z List.not_mem_nil, ?_⟩
  rw [h]
  intro v H' F _ r _ _
  cases r with
  | val q =>
    cases q
    rfl
end DL

set_option Elab.async false
set_option maxRecDepth 100000
set_option maxHeartbeats 4000000
namespace DL
open PySem PySem.Spec PyProof.Rows L2
/-! ### mirrors are run -/
def Out.bnd {α β : Type} (o : Out α) (k : α → M β) : Out β := match o with
  | .ok a ρ => k a ρ
  | .exc x ρ => .exc x ρ
  | .bad => .bad
section
variable {α β : Type} {ρ : Rho} {x : XD} {a : α} {k : α → M β}
@[simp] theorem bnd_ok : (Out.ok a ρ).bnd k = k a ρ := (rfl)
@[simp] theorem bnd_exc : (Out.exc x ρ : Out α).bnd k = .exc x ρ := (rfl)
@[simp] theorem bnd_bad : (Out.bad : Out α).bnd k = .bad := (rfl)
@[simp] theorem bind_ap (m : M α) (k : α → M β) (ρ : Rho) : M.bind m k ρ = (m ρ).bnd k := (rfl)
@[simp] theorem ret_ap (a : α) (ρ : Rho) : M.ret a ρ = .ok a ρ := (rfl)
@[simp] theorem bad_ap (ρ : Rho) : (M.bad : M α) ρ = .bad := (rfl)
@[simp] theorem if_ap {c : Prop} [Decidable c] (m m' : M α) (ρ : Rho) : (if c then m else m') ρ = if c then m ρ else m' ρ := by split <;> rfl
theorem getM_ap {i : Nat} {t : T} (h : ρ[i]? = some (some t)) : getM i ρ = .ok (.slot i) ρ := by
  unfold getM
  rw [h]
@[simp] theorem getM0 {t : T} {l : Rho} : getM 0 (some t :: l) = .ok (.slot 0) (some t :: l) := (rfl)
@[simp] theorem getM1 {t : T} {l : Rho} {a} : getM 1 (a :: some t :: l) = .ok (.slot 1) (a :: some t :: l) := (rfl)
@[simp] theorem getM2 {t : T} {l : Rho} {a b} : getM 2 (a :: b :: some t :: l) = .ok (.slot 2) (a :: b :: some t :: l) := (rfl)
@[simp] theorem getM3 {t : T} {l : Rho} {a b c} : getM 3 (a :: b :: c :: some t :: l) = .ok (.slot 3) (a :: b :: c :: some t :: l) := (rfl)
@[simp] theorem getM4 {t : T} {l : Rho} {a b c d} : getM 4 (a :: b :: c :: d :: some t :: l) = .ok (.slot 4) (a :: b :: c :: d :: some t :: l) := (rfl)
@[simp] theorem getM5 {t : T} {l : Rho} {a b c d e} : getM 5 (a :: b :: c :: d :: e :: some t :: l) = .ok (.slot 5) (a :: b :: c :: d :: e :: some t :: l) := (rfl)
@[simp] theorem getM6 {t : T} {l : Rho} {a b c d e f} : getM 6 (a :: b :: c :: d :: e :: f :: some t :: l) = .ok (.slot 6) (a :: b :: c :: d :: e :: f :: some t :: l) := (rfl)
@[simp] theorem getM7 {t : T} {l : Rho} {a b c d e f g} : getM 7 (a :: b :: c :: d :: e :: f :: g :: some t :: l) = .ok (.slot 7) (a :: b :: c :: d :: e :: f :: g :: some t :: l) := (rfl)
@[simp] theorem getM8 {t : T} {l : Rho} {a b c d e f g h} : getM 8 (a :: b :: c :: d :: e :: f :: g :: h :: some t :: l) = .ok (.slot 8) (a :: b :: c :: d :: e :: f :: g :: h :: some t :: l) := (rfl)
@[simp] theorem getM9 {t : T} {l : Rho} {a b c d e f g h i} : getM 9 (a :: b :: c :: d :: e :: f :: g :: h :: i :: some t :: l) = .ok (.slot 9) (a :: b :: c :: d :: e :: f :: g :: h :: i :: some t :: l) := (rfl)
@[simp] theorem look_tmp (t : T) (ρ : Rho) : look (.tmp t) ρ = some t.view := (rfl)
@[simp] theorem look0 {t : T} {l : Rho} : look (.slot 0) (some t :: l) = some t.view := (rfl)
@[simp] theorem look1 {t : T} {l : Rho} {a} : look (.slot 1) (a :: some t :: l) = some t.view := (rfl)
@[simp] theorem look2 {t : T} {l : Rho} {a b} : look (.slot 2) (a :: b :: some t :: l) = some t.view := (rfl)
@[simp] theorem look3 {t : T} {l : Rho} {a b c} : look (.slot 3) (a :: b :: c :: some t :: l) = some t.view := (rfl)
@[simp] theorem look4 {t : T} {l : Rho} {a b c d} : look (.slot 4) (a :: b :: c :: d :: some t :: l) = some t.view := (rfl)
@[simp] theorem look5 {t : T} {l : Rho} {a b c d e} : look (.slot 5) (a :: b :: c :: d :: e :: some t :: l) = some t.view := (rfl)
@[simp] theorem look6 {t : T} {l : Rho} {a b c d e f} : look (.slot 6) (a :: b :: c :: d :: e :: f :: some t :: l) = some t.view := (rfl)
@[simp] theorem look7 {t : T} {l : Rho} {a b c d e f g} : look (.slot 7) (a :: b :: c :: d :: e :: f :: g :: some t :: l) = some t.view := (rfl)
@[simp] theorem look8 {t : T} {l : Rho} {a b c d e f g h} : look (.slot 8) (a :: b :: c :: d :: e :: f :: g :: h :: some t :: l) = some t.view := (rfl)
@[simp] theorem look9 {t : T} {l : Rho} {a b c d e f g h i} : look (.slot 9) (a :: b :: c :: d :: e :: f :: g :: h :: i :: some t :: l) = some t.view := (rfl)
def getO (i : Nat) (ρ : Rho) : Option (Option T) → Out R
  | some (some _) => .ok (.slot i) ρ
  | _ => .bad
@[simp low] theorem getM_gen (i : Nat) (ρ : Rho) : getM i ρ = getO i ρ ρ[i]? := by
  unfold getM getO
  generalize ρ[i]? = o
  match o with
  | none => rfl
  | some none => rfl
  | some (some _) => rfl
@[simp] theorem getO_some (i : Nat) (ρ : Rho) (t : T) : getO i ρ (some (some t)) = .ok (.slot i) ρ := (rfl)
def lookO : Option (Option T) → Option D
  | some (some t) => some t.view
  | _ => none
@[simp low] theorem look_gen (i : Nat) (ρ : Rho) : look (.slot i) ρ = lookO ρ[i]? := by
  show (match ρ[i]? with | some (some t) => some t.view | _ => none) = _
  unfold lookO
  generalize ρ[i]? = o
  match o with
  | none => rfl
  | some none => rfl
  | some (some _) => rfl
@[simp] theorem lookO_some (t : T) : lookO (some (some t)) = some t.view := (rfl)
@[simp] theorem view_val (d : D) : (T.val d).view = d := (rfl)
@[simp] theorem view_lst (t : Option Nat) (ds : List D) : (T.lst t ds).view = .list ds := (rfl)
@[simp] theorem looks_nil (ρ : Rho) : looks [] ρ = some [] := (rfl)
@[simp] theorem looks_cons (r : R) (rs : List R) (ρ : Rho) : looks (r :: rs) ρ = (look r ρ).bind fun d => (looks rs ρ).map (d :: ·) := by
  rw [looks]
  cases look r ρ <;> rfl
/-- what an operation's answer is -/
def Out.ofT (o : Option T) (ρ : Rho) : Out R := match o with
  | some t => .ok (.tmp t) ρ
  | none => .bad
@[simp] theorem ofT_some (t : T) (ρ : Rho) : Out.ofT (some t) ρ = .ok (.tmp t) ρ := (rfl)
@[simp] theorem op2_ap (f : D → D → Option T) (ra rb : R) (ρ : Rho) : op2 f ra rb ρ = Out.ofT ((look ra ρ).bind fun x => (look rb ρ).bind fun y => f x y) ρ := by
  unfold op2
  cases look ra ρ <;> cases look rb ρ <;> rfl
@[simp] theorem op1_ap (f : D → Option T) (ra : R) (ρ : Rho) : op1 f ra ρ = Out.ofT ((look ra ρ).bind f) ρ := by
  unfold op1
  cases look ra ρ <;> rfl
@[simp] theorem opN_ap (f : List D → Option T) (rs : List R) (ρ : Rho) : opN f rs ρ = Out.ofT ((looks rs ρ).bind f) ρ := by
  unfold opN
  cases looks rs ρ <;> rfl
def Out.ofB (o : Option D) (ρ : Rho) : Out Bool := match o with
  | some (.bool b) => .ok b ρ
  | _ => .bad
@[simp] theorem ofB_some (b : Bool) (ρ : Rho) : Out.ofB (some (.bool b)) ρ = .ok b ρ := (rfl)
@[simp] theorem asB_ap (r : R) (ρ : Rho) : asB r ρ = Out.ofB (look r ρ) ρ := (rfl)
@[simp] theorem frz_tmp (t : T) (ρ : Rho) : frz (.tmp t) ρ = .ok t.view ρ := (rfl)
theorem frz_val {i : Nat} {d : D} (h : ρ[i]? = some (some (.val d))) : frz (.slot i) ρ = .ok d ρ := by
  unfold frz
  simp only [h]
theorem frz_lst {i : Nat} {ds : List D} (h : ρ[i]? = some (some (.lst none ds))) : frz (.slot i) ρ = .ok (.list ds) (ρ.set i (some (.val (.list ds)))) := by
  unfold frz
  simp only [h]
@[simp] theorem frzs_nil (ρ : Rho) : frzs [] ρ = .ok [] ρ := (rfl)
@[simp] theorem frzs_cons (r : R) (rs : List R) (ρ : Rho) : frzs (r :: rs) ρ = (frz r ρ).bnd fun d ρ' => (frzs rs ρ').bnd fun ds ρ'' => .ok (d :: ds) ρ'' := (rfl)
def mkT' (ds : List D) (ρ : Rho) : Out R := if ds.length ≤ sizeLine then .ok (.tmp (.val (.tuple ds))) ρ else .bad
def mkL' (ds : List D) (ρ : Rho) : Out R := if ds.length ≤ sizeLine then .ok (.tmp (.lst none ds)) ρ else .bad
theorem sizeLine_big {n : Nat} (h : n ≤ 16777216) : n ≤ sizeLine := by
  rw [sizeLine_eq]
  exact h
theorem sizeLine_lt {n : Nat} (h : n < 16777216) : n < sizeLine := by
  rw [sizeLine_eq]
  exact h
@[simp] theorem mkTup_ap (rs : List R) (ρ : Rho) : mkTup rs ρ = (frzs rs ρ).bnd mkT' := by
  show (frzs rs ρ).bnd _ = _
  congr 1
  funext ds ρ'
  unfold mkT'
  split <;> rfl
@[simp] theorem mkLst_ap (rs : List R) (ρ : Rho) : mkLst rs ρ = (frzs rs ρ).bnd mkL' := by
  show (frzs rs ρ).bnd _ = _
  congr 1
  funext ds ρ'
  unfold mkL'
  split <;> rfl
@[simp] theorem mkT_ok (ds : List D) (ρ : Rho) (h : ds.length ≤ 16777216) : mkT' ds ρ = .ok (.tmp (.val (.tuple ds))) ρ := if_pos (sizeLine_big h)
@[simp] theorem mkL_ok (ds : List D) (ρ : Rho) (h : ds.length ≤ 16777216) : mkL' ds ρ = .ok (.tmp (.lst none ds)) ρ := if_pos (sizeLine_big h)
/-- a def's answer -/
def Out.ofF (o : FO) (ρ : Rho) (slow : Out R) : Out R := match o with
  | .ok t => if t.scal then .ok (.tmp t) ρ else slow
  | .exc _ => slow
  | .bad => .bad
@[simp] theorem ofF_ok (t : T) (ρ : Rho) (s : Out R) : Out.ofF (.ok t) ρ s = if t.scal then .ok (.tmp t) ρ else s := (rfl)
def Out.ofFS (o : FO) (ρ : Rho) : Out R := match o with
  | .ok t => .ok (.tmp t) ρ
  | .exc x => .exc x ρ
  | .bad => .bad
@[simp] theorem ofFS_ok (t : T) (ρ : Rho) : Out.ofFS (.ok t) ρ = .ok (.tmp t) ρ := (rfl)
@[simp] theorem ofFS_exc (t : XD) (ρ : Rho) : Out.ofFS (.exc t) ρ = .exc t ρ := (rfl)
@[simp] theorem callS_ap (f : List D → FO) (rs : List R) (ρ : Rho) : callS f rs ρ = (frzs rs ρ).bnd fun ds ρ' => Out.ofFS (f ds) ρ' := (rfl)
def callL (f : List D → FO) (rs : List R) (ρ : Rho) : Option (List D) → Out R
  | some ds => Out.ofF (f ds) ρ (callS f rs ρ)
  | none => .bad
@[simp] theorem callM_eq (f : List D → FO) (rs : List R) (ρ : Rho) : callM f rs ρ = callL f rs ρ (looks rs ρ) := by
  unfold callM callL
  cases looks rs ρ with
  | none => rfl
  | some ds => rfl
@[simp] theorem callL_some (f : List D → FO) (rs : List R) (ρ : Rho) (ds : List D) : callL f rs ρ (some ds) = Out.ofF (f ds) ρ (callS f rs ρ) := (rfl)
@[simp] theorem ofF_exc (x : XD) (ρ : Rho) (s : Out R) : Out.ofF (.exc x) ρ s = s := (rfl)
@[simp] theorem scal_val (d : D) : (T.val d).scal = scalD d := (rfl)
@[simp] theorem scal_lst (a) (d : List D) : (T.lst a d).scal = false := (rfl)
@[simp] theorem scalD_int (i : Int) : scalD (.int i) = true := (rfl)
@[simp] theorem scalD_bool (i : Bool) : scalD (.bool i) = true := (rfl)
@[simp] theorem scalD_str (i : Str) : scalD (.str i) = true := (rfl)
@[simp] theorem scalD_none : scalD .none = true := (rfl)
@[simp] theorem scalD_list (i : List D) : scalD (.list i) = false := (rfl)
@[simp] theorem scalD_tuple (i : List D) : scalD (.tuple i) = false := (rfl)
def frzO (i : Nat) (ρ : Rho) : Option (Option T) → Out D
  | some (some (.val d)) => .ok d ρ
  | some (some (.lst none ds)) => .ok (.list ds) (ρ.set i (some (.val (.list ds))))
  | _ => .bad
@[simp] theorem frz_slot (i : Nat) (ρ : Rho) : frz (.slot i) ρ = frzO i ρ ρ[i]? := (rfl)
@[simp] theorem frzO_val (i : Nat) (ρ : Rho) (d : D) : frzO i ρ (some (some (.val d))) = .ok d ρ := (rfl)
@[simp] theorem frzO_lst (i : Nat) (ρ : Rho) (ds : List D) : frzO i ρ (some (some (.lst none ds))) = .ok (.list ds) (ρ.set i (some (.val (.list ds)))) := (rfl)
def apO (i : Nat) (d : D) (ρ : Rho) : Option (Option T) → Out R
  | some (some (.lst tag ds)) => if ds.length < sizeLine then .ok (.tmp (.val .none)) (ρ.set i (some (.lst tag (ds ++ [d])))) else .bad
  | _ => .bad
@[simp] theorem apM_slot (i : Nat) (d : D) (ρ : Rho) : apM (.slot i) d ρ = apO i d ρ ρ[i]? := by
  unfold apM mutM
  dsimp only
  generalize ρ[i]? = o
  match o with
  | none => rfl
  | some none => rfl
  | some (some (.val _)) => rfl
  | some (some (.lst tag ds)) =>
    by_cases hl : ds.length < sizeLine
    · simp only [apO, if_pos hl]
    · simp only [apO, if_neg hl]
@[simp] theorem apO_lst (i : Nat) (d : D) (ρ : Rho) (tag : Option Nat) (ds : List D) (h : ds.length < 16777216) : apO i d ρ (some (some (.lst tag ds))) = .ok (.tmp (.val .none)) (ρ.set i (some (.lst tag (ds ++ [d])))) := if_pos (sizeLine_lt h)
def chkO (ρ : Rho) : Option D → Out Unit
  | some (.list _) => .ok () ρ
  | _ => .bad
@[simp] theorem chkL_eq (r : R) (ρ : Rho) : chkL r ρ = chkO ρ (look r ρ) := (rfl)
@[simp] theorem chkO_list (ρ : Rho) (ds : List D) : chkO ρ (some (.list ds)) = .ok () ρ := (rfl)
theorem seq_nx {ma mb : M Fl} {ρ' : Rho} (h : ma ρ = .ok .nx ρ') : seqM ma mb ρ = mb ρ' := by
  show (ma ρ).bnd _ = _
  rw [h]
  rfl
def Fl.then_ (f : Fl) (mb : M Fl) : M Fl := match f with
  | .nx => mb
  | f => .ret f
@[simp] theorem then_nx (mb : M Fl) : Fl.nx.then_ mb = mb := (rfl)
@[simp] theorem then_rt (r : R) (mb : M Fl) (ρ : Rho) : (Fl.rt r).then_ mb ρ = .ok (.rt r) ρ := (rfl)
@[simp] theorem then_bk (mb : M Fl) (ρ : Rho) : Fl.bk.then_ mb ρ = .ok .bk ρ := (rfl)
@[simp] theorem then_ct (mb : M Fl) (ρ : Rho) : Fl.ct.then_ mb ρ = .ok .ct ρ := (rfl)
@[simp] theorem seq_ap (ma mb : M Fl) (ρ : Rho) : seqM ma mb ρ = (ma ρ).bnd fun f => f.then_ mb := by
  show (ma ρ).bnd _ = (ma ρ).bnd _
  congr 1
@[simp] theorem putT_ap (i : Nat) (t : T) (ρ : Rho) : putT i t ρ = if i < ρ.length then .ok () (ρ.set i (some t)) else .bad := (rfl)
@[simp] theorem asgR_tmp (i : Nat) (t : T) : asgR i (.tmp t) = putT i t := (rfl)
@[simp] theorem asgR_slot (i j : Nat) : asgR i (.slot j) = M.bind (frz (.slot j)) fun d => putT i (.val d) := (rfl)
@[simp] theorem parM_ap (is : List Nat) (rs : List R) (ρ : Rho) : parM is rs ρ = (frzs rs ρ).bnd fun ds ρ => if ds.length = is.length then (if is.all (fun i => decide (i < ρ.length)) then .ok .nx ((is.zip ds).foldl (fun ρ p => ρ.set p.1 (some (.val p.2))) ρ) else .bad) else .bad := (rfl)
theorem asgSeq_tup {n : Nat} {fs : List D → M Unit} {r : R} {ds : List D} {ρ' : Rho} (h : frz r ρ = .ok (.tuple ds) ρ') (hl : ds.length = n) : asgSeq n fs r ρ = fs ds ρ' := by
  show (frz r ρ).bnd _ = _
  rw [h]
  show (if ds.length = n then fs ds else M.bad) ρ' = _
  rw [if_pos hl]
theorem asgSeq_lst {n : Nat} {fs : List D → M Unit} {r : R} {ds : List D} {ρ' : Rho} (h : frz r ρ = .ok (.list ds) ρ') (hl : ds.length = n) : asgSeq n fs r ρ = fs ds ρ' := by
  show (frz r ρ).bnd _ = _
  rw [h]
  show (if ds.length = n then fs ds else M.bad) ρ' = _
  rw [if_pos hl]
theorem mutM_ap {α : Type} {i : Nat} {f : List D → Option (List D × α)} {tag : Option Nat} {ds es : List D} {a : α} (h : ρ[i]? = some (some (.lst tag ds))) (hf : f ds = some (es, a)) : mutM (.slot i) f ρ = .ok a (ρ.set i (some (.lst tag es))) := by
  unfold mutM
  simp only [h, hf]
theorem apM_ap {i : Nat} {d : D} {tag : Option Nat} {ds : List D} (h : ρ[i]? = some (some (.lst tag ds))) (hl : ds.length < sizeLine) : apM (.slot i) d ρ = .ok (.tmp (.val .none)) (ρ.set i (some (.lst tag (ds ++ [d])))) :=
  mutM_ap h (by rw [if_pos hl])
theorem chkL_ap {r : R} {ds : List D} (h : look r ρ = some (.list ds)) : chkL r ρ = .ok () ρ := by
  unfold chkL
  rw [h]
end
/-! ### loops -/
theorem forM_fold {S : Type} {f : R → M Unit} {m : M Fl} (of : S → Rho) (step : S → D → S) : ∀ (ds : List D) (s : S), (∀ s d, d ∈ ds → (M.bind (f (.tmp (.val d))) fun _ => m) (of s) = .ok .nx (of (step s d))) → forM f m ds (of s) = .ok .nx (of (ds.foldl step s))
  | [], s, _ => rfl
  | d :: ds, s, h => by
    show ((M.bind (f (.tmp (.val d))) fun _ => m) (of s)).bnd _ = _
    rw [h s d List.mem_cons_self]
    exact forM_fold of step ds (step s d) fun s d hd => h s d (List.mem_cons_of_mem _ hd)
/-- a loop by an invariant; Post of the loop's outcome -/
theorem forM_inv {f : R → M Unit} {m : M Fl} {Post : Out Fl → Prop} (Inv : List D → Rho → Prop) (h0 : ∀ ρ, Inv [] ρ → Post (.ok .nx ρ))
    (hs : ∀ d ds ρ, Inv (d :: ds) ρ → match (M.bind (f (.tmp (.val d))) fun _ => m) ρ with
      | .ok .nx ρ' => Inv ds ρ'
      | .ok .ct ρ' => Inv ds ρ'
      | .ok .bk ρ' => Post (.ok .nx ρ')
      | .ok (.rt r) ρ' => Post (.ok (.rt r) ρ')
      | .exc x ρ' => Post (.exc x ρ')
      | .bad => Post .bad) : ∀ (ds : List D) (ρ : Rho), Inv ds ρ → Post (forM f m ds ρ)
  | [], ρ, h => h0 ρ h
  | d :: ds, ρ, h => by
    have z := hs d ds ρ h
    show Post (((M.bind (f (.tmp (.val d))) fun _ => m) ρ).bnd _)
    cases e : (M.bind (f (.tmp (.val d))) fun _ => m) ρ with
    | bad => rw [e] at z; exact z
    | exc x ρ' => rw [e] at z; exact z
    | ok fl ρ' =>
      rw [e] at z
      cases fl with
      | nx => exact forM_inv Inv h0 hs ds ρ' z
      | ct => exact forM_inv Inv h0 hs ds ρ' z
      | bk => exact z
      | rt r => exact z
def Fl.loop (f : Fl) (w : M Fl) : M Fl := match f with
  | .nx => w
  | .ct => w
  | .bk => .ret .nx
  | .rt r => .ret (.rt r)
@[simp] theorem loop_nx (w : M Fl) : Fl.nx.loop w = w := (rfl)
@[simp] theorem loop_ct (w : M Fl) : Fl.ct.loop w = w := (rfl)
@[simp] theorem loop_bk (w : M Fl) (ρ : Rho) : Fl.bk.loop w ρ = .ok .nx ρ := (rfl)
@[simp] theorem loop_rt (r : R) (w : M Fl) (ρ : Rho) : (Fl.rt r).loop w ρ = .ok (.rt r) ρ := (rfl)
@[simp] theorem orM_ap (ta tb : M Bool) (ρ : Rho) : DL.orM ta tb ρ = (ta ρ).bnd fun c => if c then .ret true else tb := (rfl)
@[simp] theorem andM_ap (ta tb : M Bool) (ρ : Rho) : DL.andM ta tb ρ = (ta ρ).bnd fun c => if c then tb else .ret false := (rfl)
@[simp] theorem vAnd_ap (ma mb : M R) (ρ : Rho) : vAnd ma mb ρ = (ma ρ).bnd fun r => M.bind (asB r) fun c => if c then mb else .ret (.tmp (.val (.bool false))) := (rfl)
@[simp] theorem vOr_ap (ma mb : M R) (ρ : Rho) : vOr ma mb ρ = (ma ρ).bnd fun r => M.bind (asB r) fun c => if c then .ret (.tmp (.val (.bool true))) else mb := (rfl)
theorem forM_cons (f : R → M Unit) (m : M Fl) (d : D) (ds : List D) (ρ : Rho) : forM f m (d :: ds) ρ = ((M.bind (f (.tmp (.val d))) fun _ => m) ρ).bnd fun fl => fl.loop (forM f m ds) := by
  show ((M.bind (f (.tmp (.val d))) fun _ => m) ρ).bnd _ = _
  congr 1
@[simp] theorem forM_nil (f : R → M Unit) (m : M Fl) (ρ : Rho) : forM f m [] ρ = .ok .nx ρ := (rfl)
theorem while_ap (tb : M Bool) (m : M Fl) (ρ : Rho) : whileC tb m ρ = (tb ρ).bnd fun b => if b then M.bind m fun f => f.loop (whileC tb m) else M.ret .nx := by
  rw [whileC_turn]
  unfold turn
  show (tb ρ).bnd _ = (tb ρ).bnd _
  congr 1
/-! ### operations on what is known -/
def Out.fin (o : Out Fl) : FO := match o with
  | .ok .nx _ => .ok (.val .none)
  | .ok (.rt (.tmp t)) _ => .ok t
  | .ok (.rt (.slot i)) ρ => (match ρ[i]? with
    | some (some t) => .ok t.untag
    | _ => .bad)
  | .ok _ _ => .bad
  | .exc x _ => .exc x
  | .bad => .bad
def Out.finO : Option (Option T) → FO
  | some (some t) => .ok t.untag
  | _ => .bad
theorem run_eq (n : Nat) (m : M Fl) (ds : List D) : runF n m ds = (m (ds.map (fun d => some (T.val d)) ++ List.replicate n none)).fin := (rfl)
@[simp] theorem fin_nx (ρ : Rho) : (Out.ok Fl.nx ρ).fin = .ok (.val .none) := (rfl)
@[simp] theorem fin_tmp (t : T) (ρ : Rho) : (Out.ok (Fl.rt (.tmp t)) ρ).fin = .ok t := (rfl)
@[simp] theorem fin_slot (i : Nat) (ρ : Rho) : (Out.ok (Fl.rt (.slot i)) ρ).fin = Out.finO ρ[i]? := (rfl)
@[simp] theorem fin_exc (x : XD) (ρ : Rho) : (Out.exc x ρ : Out Fl).fin = .exc x := (rfl)
@[simp] theorem finO_val (d : D) : Out.finO (some (some (.val d))) = .ok (.val d) := (rfl)
@[simp] theorem finO_lst (t : Option Nat) (ds : List D) : Out.finO (some (some (.lst t ds))) = .ok (.lst none ds) := (rfl)
@[simp] theorem fAdd_ii (i j : Int) : fAdd (.int i) (.int j) = some (.val (.int (i + j))) := (rfl)
@[simp] theorem fAdd_ll (i j : List D) (h : i.length + j.length ≤ 16777216) : fAdd (.list i) (.list j) = some (.lst none (i ++ j)) := if_pos (sizeLine_big h)
@[simp] theorem fSub_ii (i j : Int) : fSub (.int i) (.int j) = some (.val (.int (i - j))) := (rfl)
@[simp] theorem fNeg_i (i : Int) : fNeg (.int i) = some (.val (.int (-i))) := (rfl)
@[simp] theorem fMul_ii (i j : Int) : fMulI (.int i) (.int j) = if bMul i j = true then some (.val (.int (i * j))) else none := (rfl)
@[simp] theorem fMod_ii (i j : Int) : fMod (.int i) (.int j) = if j ≠ 0 then some (.val (.int (i.fmod j))) else none := by
  show (if bMod i j = true then _ else _) = _
  simp [bMod]
@[simp] theorem fDiv_ii (i j : Int) : fDiv (.int i) (.int j) = if bDivZ i j = true then some (.val (.int (i.fdiv j))) else none := (rfl)
@[simp] theorem fPow_ii (i j : Int) : fPow (.int i) (.int j) = if bPow i j = true then some (.val (.int (i ^ j.toNat))) else none := (rfl)
@[simp] theorem fCmp_ii (p : Int → Int → Bool) (i j : Int) : fCmpI p (.int i) (.int j) = some (.val (.bool (p i j))) := (rfl)
@[simp] theorem fEq_ii (i j : Int) : fEq (.int i) (.int j) = some (.val (.bool (decide (i = j)))) := (rfl)
@[simp] theorem fNe_ii (i j : Int) : fNe (.int i) (.int j) = some (.val (.bool (!decide (i = j)))) := (rfl)
@[simp] theorem fEq_bb (i j : Bool) : fEq (.bool i) (.bool j) = some (.val (.bool (decide (i = j)))) := (rfl)
@[simp] theorem fNe_bb (i j : Bool) : fNe (.bool i) (.bool j) = some (.val (.bool (!decide (i = j)))) := (rfl)
@[simp] theorem fEq_ss (i j : Str) : fEq (.str i) (.str j) = some (.val (.bool (decide (i = j)))) := (rfl)
@[simp] theorem fNe_ss (i j : Str) : fNe (.str i) (.str j) = some (.val (.bool (!decide (i = j)))) := (rfl)
@[simp] theorem fIx_l (xs : List D) (i : Int) : fIx (.list xs) (.int i) = (atI xs i).map .val := (rfl)
@[simp] theorem fIx_t (xs : List D) (i : Int) : fIx (.tuple xs) (.int i) = (atI xs i).map .val := (rfl)
theorem atI_n {α : Type} {l : List α} {k : Nat} {a : α} (h : l[k]? = some a) : atI l (k : Int) = some a := by
  have hl := (List.getElem?_eq_some_iff.mp h).1
  unfold atI ixN
  rw [if_pos (by omega), if_pos (by omega)]
  simpa using h
@[simp] theorem atI0 {α : Type} (a : α) (l : List α) : atI (a :: l) 0 = some a := atI_n (k := 0) rfl
@[simp] theorem atI1 {α : Type} (a b : α) (l : List α) : atI (a :: b :: l) 1 = some b := atI_n (k := 1) rfl
@[simp] theorem atI2 {α : Type} (a b c : α) (l : List α) : atI (a :: b :: c :: l) 2 = some c := atI_n (k := 2) rfl
@[simp] theorem atI3 {α : Type} (a b c d : α) (l : List α) : atI (a :: b :: c :: d :: l) 3 = some d := atI_n (k := 3) rfl
@[simp] theorem atI4 {α : Type} (a b c d e : α) (l : List α) : atI (a :: b :: c :: d :: e :: l) 4 = some e := atI_n (k := 4) rfl
@[simp] theorem fLen_l (ds : List D) : fLen [.list ds] = some (.val (.int ds.length)) := (rfl)
@[simp] theorem fLen_t (ds : List D) : fLen [.tuple ds] = some (.val (.int ds.length)) := (rfl)
@[simp] theorem fAbs_i (i : Int) : fAbs [.int i] = some (.val (.int i.natAbs)) := (rfl)
@[simp] theorem fIsi_d (b : D → Bool) (d : D) : fIsi b [d] = some (.val (.bool (b d))) := (rfl)
def rngO (ρ : Rho) : Option D → Out (List D)
  | some (.int j) => if -(2 ^ 62) ≤ j ∧ j < 2 ^ 62 then .ok (irange 0 j.toNat) ρ else .bad
  | _ => .bad
@[simp] theorem rng1_ap (r : R) (ρ : Rho) : rng1 [r] ρ = rngO ρ (look r ρ) := (rfl)
theorem rngO_int (ρ : Rho) (j : Int) : rngO ρ (some (.int j)) = if -(2 ^ 62) ≤ j ∧ j < 2 ^ 62 then .ok (irange 0 j.toNat) ρ else .bad := (rfl)
theorem rng_nat (ρ : Rho) {n : Nat} (h : n ≤ 1000000000) : rngO ρ (some (.int (n : Int))) = .ok (irange 0 n) ρ := by
  rw [rngO_int, if_pos (by omega), Int.toNat_natCast]
/-- a divisor that is no too great number -/
def Dvs (j : Int) : Prop := j ≠ 0 ∧ j.natAbs.log2 < 9000
theorem Dvs.ok {i j : Int} (h : Dvs j) : bDivZ i j = true := by
  unfold bDivZ
  rw [decide_eq_true h.1, decide_eq_true h.2]
  rfl
def itO (ρ : Rho) : Option (List D) → Out (List D)
  | some ds => .ok ds ρ
  | none => .bad
@[simp] theorem itO_some (ρ : Rho) (ds : List D) : itO ρ (some ds) = .ok ds ρ := (rfl)
@[simp] theorem items_ap (r : R) (ρ : Rho) : items r ρ = (frz r ρ).bnd fun d ρ' => itO ρ' (itemsD d) := by
  show (frz r ρ).bnd _ = _
  congr 1
@[simp] theorem itemsD_l (ds : List D) : itemsD (.list ds) = some ds := (rfl)
@[simp] theorem itemsD_t (ds : List D) : itemsD (.tuple ds) = some ds := (rfl)
@[simp] theorem itemsD_s (z : Str) : itemsD (.str z) = some (chars z) := (rfl)
def Out.ofI (o : Option D) (ρ : Rho) : Out (Option Int) := match o with
  | some (.int i) => .ok (some i) ρ
  | _ => .bad
@[simp] theorem asInt_ap (r : R) (ρ : Rho) : asInt r ρ = Out.ofI (look r ρ) ρ := (rfl)
@[simp] theorem ofI_int (i : Int) (ρ : Rho) : Out.ofI (some (.int i)) ρ = .ok (some i) ρ := (rfl)
@[simp] theorem opSl_ap (ra : R) (lo hi : Option Int) (ρ : Rho) : opSl ra lo hi ρ = Out.ofT ((look ra ρ).bind fun x => fSl x lo hi) ρ := by
  unfold opSl
  cases look ra ρ <;> rfl
@[simp] theorem fSl_l (xs : List D) (lo hi) : fSl (.list xs) lo hi = some (.lst none ((xs.drop (HT.sIx xs.length 0 lo)).take (HT.sIx xs.length xs.length hi - HT.sIx xs.length 0 lo))) := (rfl)
theorem log2_le {n N : Nat} (h : n < 2 ^ N) : n.log2 ≤ N := by
  by_cases z : n = 0
  · subst z
    simp
  · exact Nat.le_of_lt ((Nat.log2_lt z).mpr h)
theorem bMul_of {i j : Int} (N M : Nat) (hi : i.natAbs < 2 ^ N) (hj : j.natAbs < 2 ^ M) (h : N + M < 1000000) : bMul i j = true := by
  have a := log2_le hi
  have b := log2_le hj
  exact decide_eq_true (by omega)
theorem bPow_of {i j : Int} (N : Nat) (hi : i.natAbs < 2 ^ N) (h0 : 0 ≤ j) (h : ((N : Int) + 1) * j ≤ 134217728) : bPow i j = true := by
  have a := log2_le hi
  have hb : (Builtin.Int.intBits i : Int) ≤ N + 1 := by
    unfold Builtin.Int.intBits
    split <;> omega
  have h1 : (Builtin.Int.intBits i : Int) * j ≤ (N + 1) * j := Int.mul_le_mul_of_nonneg_right hb h0
  unfold bPow
  rw [decide_eq_true h0, decide_eq_true (by omega)]
  rfl
theorem bDivZ_of {i j : Int} (N : Nat) (h0 : j ≠ 0) (hj : j.natAbs < 2 ^ N) (h : N < 9000) : bDivZ i j = true := by
  have b := log2_le hj
  unfold bDivZ
  rw [decide_eq_true h0, decide_eq_true (by omega)]
  rfl
theorem atI_get {l : List D} {i : Int} (h0 : 0 ≤ i) (h1 : i < l.length) : atI l i = some (l.getD i.toNat .none) := by
  unfold atI ixN
  rw [if_pos h0, if_pos h1]
  have : i.toNat < l.length := by omega
  simp [this]
theorem atI_mem {l : List D} {i : Int} (h0 : 0 ≤ i) (h1 : i < l.length) : ∃ d ∈ l, atI l i = some d := by
  have : i.toNat < l.length := by omega
  exact ⟨l[i.toNat], List.getElem_mem this, by rw [atI_get h0 h1]; simp [this]⟩
/-- an int of a written list of ints -/
theorem atI_int {l : List Int} {i : Int} (h0 : 0 ≤ i) (h1 : i < l.length) : ∃ v ∈ l, atI (l.map PyData.int) i = some (.int v) := by
  obtain ⟨d, hd, e⟩ := atI_mem (l := l.map PyData.int) h0 (by simpa using h1)
  obtain ⟨v, hv, rfl⟩ := List.mem_map.mp hd
  exact ⟨v, hv, e⟩
end DL

set_option Elab.async false
set_option maxRecDepth 100000
set_option maxHeartbeats 4000000
namespace DL
open PySem PySem.Spec PyProof.Rows L2
/-! ### what many laws draw their input with -/
def g_cell : M Fl := seqM (ifS (tcmp fLt (getM 1) (callB fLen (argC (getM 0) (argN)))) (retS (bin fIx (getM 0) (getM 1))) (nilS))
  (retS (cst (.int 0)))
def f_cell : List D → FO := runF 0 g_cell
def g_digits : M Fl := seqM (setS 3 (lstM (argN)))
  (seqM (forS (asgR 4) (itR1 (argC (getM 2) (argN))) (seqM (exS (apE (getM 3) (bin fMod (getM 0) (getM 1))))
  (setS 0 (bin fDiv (getM 0) (getM 1)))))
  (retS (getM 3)))
def f_digits : List D → FO := runF 2 g_digits
def g_mixed : M Fl := seqM (setS 3 (lstM (argN)))
  (seqM (forS (asgR 4) (itR1 (argC (getM 2) (argN))) (seqM (setS 5 (bin fMod (bin fMulI (bin fAdd (bin fAdd (bin fAdd (bin fMod (getM 0) (cst (.int 998244353))) (bin fMulI (bin fMulI (cst (.int 31)) (getM 4)) (getM 4))) (bin fMulI (cst (.int 1013)) (getM 4))) (cst (.int 1))) (cst (.int 48271))) (cst (.int 2147483647))))
  (seqM (setS 6 (bin fMod (bin fMulI (bin fAdd (bin fAdd (bin fDiv (getM 5) (cst (.int 7))) (bin fMulI (bin fMod (bin fDiv (getM 0) (cst (.int 1009))) (cst (.int 10007))) (cst (.int 17)))) (getM 4)) (cst (.int 69621))) (cst (.int 2147483629))))
  (exS (apE (getM 3) (bin fMod (bin fDiv (getM 6) (cst (.int 11))) (getM 1)))))))
  (retS (getM 3)))
def f_mixed : List D → FO := runF 4 g_mixed
def g_row : M Fl := seqM (ifS (tcmp fGe (callB fAbs (argC (getM 0) (argN))) (bin fPow (cst (.int 10)) (cst (.int 18)))) (retS (callF f_digits (argC (getM 0) (argC (getM 1) (argC (getM 2) (argN)))))) (nilS))
  (retS (callF f_mixed (argC (getM 0) (argC (getM 1) (argC (getM 2) (argN))))))
def f_row : List D → FO := runF 0 g_row
abbrev iD (i : Int) : Option T := some (.val (.int i))
abbrev lD (l : List Int) : Option T := some (.lst none (l.map .int))
theorem cell_ok (ns : List Int) (k : Nat) : f_cell [.list (ns.map .int), .int k] = .ok (.val (.int (ns.getD k 0))) := by
  unfold f_cell g_cell
  rw [run_eq]
  by_cases h : k < ns.length
  · have e : atI (ns.map PyData.int) (k : Int) = some (.int (ns.getD k 0)) := atI_n (by simp [h])
    simp [h, e]
  · have e : ns.getD k 0 = 0 := by simp [h]
    simp [h, e]
theorem digits_loop {b : Int} (hb : 0 < b) (hb2 : Dvs b) (n : Option T) : ∀ (ds : List D) (row : List Int) (c : Int) (l : Option T), row.length + ds.length ≤ 1000000 → (∀ x ∈ row, 0 ≤ x ∧ x < b) →
    ∃ (row' : List Int) (c' : Int) (l' : Option T), row'.length = row.length + ds.length ∧ (∀ x ∈ row', 0 ≤ x ∧ x < b) ∧
      forM (asgR 4) (seqM (exS (apE (getM 3) (bin fMod (getM 0) (getM 1)))) (setS 0 (bin fDiv (getM 0) (getM 1)))) ds [iD c, iD b, n, lD row, l] = .ok .nx [iD c', iD b, n, lD row', l']
  | [], row, c, l, _, h => ⟨row, c, l, by simp, h, rfl⟩
  | d :: ds, row, c, l, hl, h => by
    have hd : bDivZ c b = true := hb2.ok
    have hs : row.length < 16777216 := by simp at hl; omega
    have hb0 : b ≠ 0 := by omega
    obtain ⟨row', c', l', h1, h2, h3⟩ := digits_loop hb hb2 n ds (row ++ [c.fmod b]) (c.fdiv b) (some (.val d)) (by simp at hl ⊢; omega) (fun x hx => by
      rcases List.mem_append.mp hx with z | z
      · exact h x z
      · rw [List.mem_singleton.mp z, Int.fmod_eq_emod_of_nonneg _ (by omega)]
        exact ⟨Int.emod_nonneg _ hb0, Int.emod_lt_of_pos _ hb⟩)
    refine ⟨row', c', l', by rw [h1]; simp; omega, h2, ?_⟩
    rw [← h3, forM_cons]
    simp [hd, hs, hb0, iD, lD]
theorem digits_ok {c b : Int} {n : Nat} (hb : 0 < b) (hb2 : Dvs b) (hn : n ≤ 1000000) : ∃ row : List Int, row.length = n ∧ (∀ x ∈ row, 0 ≤ x ∧ x < b) ∧ f_digits [.int c, .int b, .int n] = .ok (.lst none (row.map .int)) := by
  obtain ⟨row', c', l', h1, h2, h3⟩ := digits_loop hb hb2 (iD n) (irange 0 n) [] c none (by simp [irange]; omega) (by simp)
  refine ⟨row', by rw [h1]; simp [irange], h2, ?_⟩
  unfold f_digits g_digits
  rw [run_eq]
  have hr : n ≤ 1000000000 := by omega
  simp only [lD, iD, List.map_nil] at h3
  simp [rng_nat _ hr, h3]
/-- a slice of a list of ints is one -/
theorem fSl_ints (ns : List Int) (lo hi : Option Int) : ∃ sub : List Int, (∃ a b, sub = (ns.drop a).take b) ∧ sub.length ≤ ns.length ∧ fSl (.list (ns.map PyData.int)) lo hi = some (.lst none (sub.map .int)) := by
  refine ⟨(ns.drop (HT.sIx ns.length 0 lo)).take (HT.sIx ns.length ns.length hi - HT.sIx ns.length 0 lo), ⟨_, _, rfl⟩, by simp; omega, ?_⟩
  rw [fSl_l, List.length_map, List.map_take, List.map_drop]
theorem fmod_pos {a b : Int} (hb : 0 < b) : 0 ≤ a.fmod b ∧ a.fmod b < b := by
  rw [Int.fmod_eq_emod_of_nonneg _ (by omega)]
  exact ⟨Int.emod_nonneg _ (by omega), Int.emod_lt_of_pos _ hb⟩
theorem fdiv_small {a b : Int} (h : 0 ≤ a) (hb : 0 < b) : 0 ≤ a.fdiv b ∧ a.fdiv b ≤ a := by
  rw [Int.fdiv_eq_ediv_of_nonneg _ (by omega)]
  exact ⟨Int.ediv_nonneg h (by omega), Int.ediv_le_self _ h⟩
def okRow (b : Int) (row : List Int) : Prop := ∀ x ∈ row, 0 ≤ x ∧ x < b
theorem okRow.app {b : Int} {row : List Int} (h : okRow b row) {x : Int} (hx : 0 ≤ x ∧ x < b) : okRow b (row ++ [x]) := fun y hy => by
  rcases List.mem_append.mp hy with z | z
  · exact h y z
  · rw [List.mem_singleton.mp z]
    exact hx
theorem irange_cons (lo : Int) (n : Nat) : irange lo (n + 1) = .int lo :: irange (lo + 1) n := by
  unfold irange
  rw [List.range_succ_eq_map]
  simp only [List.map_cons, List.map_map]
  congr 1
  · simp
  · apply List.map_congr_left
    intro i _
    simp only [Function.comp_apply, Nat.succ_eq_add_one]
    congr 1
    omega
@[simp] theorem irange_len (lo : Int) (n : Nat) : (irange lo n).length = n := by simp [irange]
theorem mixed_step {c b k : Int} (hb : 0 < b) (hb2 : Dvs b) (hk : 0 ≤ k ∧ k ≤ 1000000) {n : Option T} {row : List Int} {l5 l6 l4 : Option T} (hs : row.length < 16777216) :
    ∃ x y z : Int, (0 ≤ x ∧ x < b) ∧ (M.bind (asgR 4 (.tmp (.val (.int k)))) fun _ => seqM (setS 5 (bin fMod (bin fMulI (bin fAdd (bin fAdd (bin fAdd (bin fMod (getM 0) (cst (.int 998244353))) (bin fMulI (bin fMulI (cst (.int 31)) (getM 4)) (getM 4))) (bin fMulI (cst (.int 1013)) (getM 4))) (cst (.int 1))) (cst (.int 48271))) (cst (.int 2147483647))))
  (seqM (setS 6 (bin fMod (bin fMulI (bin fAdd (bin fAdd (bin fDiv (getM 5) (cst (.int 7))) (bin fMulI (bin fMod (bin fDiv (getM 0) (cst (.int 1009))) (cst (.int 10007))) (cst (.int 17)))) (getM 4)) (cst (.int 69621))) (cst (.int 2147483629))))
  (exS (apE (getM 3) (bin fMod (bin fDiv (getM 6) (cst (.int 11))) (getM 1)))))) [iD c, iD b, n, lD row, l4, l5, l6] = .ok .nx [iD c, iD b, n, lD (row ++ [x]), iD k, iD y, iD z] := by
  have hb0 : b ≠ 0 := by omega
  have a1 := fmod_pos (a := c) (b := 998244353) (by decide)
  generalize e1 : c.fmod 998244353 = c1 at a1
  have k1 : 0 ≤ 31 * k ∧ 31 * k ≤ 31000000 := by omega
  have k2 : 0 ≤ 31 * k * k ∧ 31 * k * k ≤ 31000000 * 1000000 := ⟨Int.mul_nonneg k1.1 hk.1, Int.mul_le_mul k1.2 hk.2 hk.1 (by omega)⟩
  have m1 : bMul 31 k = true := bMul_of 64 64 (by decide) (by omega) (by omega)
  have m2 : bMul (31 * k) k = true := bMul_of 64 64 (by omega) (by omega) (by omega)
  generalize hkk : 31 * k * k = kk at k2
  have m3 : bMul 1013 k = true := bMul_of 64 64 (by decide) (by omega) (by omega)
  have m4 : bMul (c1 + kk + 1013 * k + 1) 48271 = true := bMul_of 64 64 (by omega) (by decide) (by omega)
  generalize hy : (c1 + kk + 1013 * k + 1) * 48271 = y0
  have a2 := fmod_pos (a := y0) (b := 2147483647) (by decide)
  generalize e2 : y0.fmod 2147483647 = y at a2
  have a3 := fdiv_small (a := y) (b := 7) a2.1 (by decide)
  have d7 : bDivZ y 7 = true := Dvs.ok ⟨by decide, by decide⟩
  generalize e3 : y.fdiv 7 = y7 at a3
  have d9 : bDivZ c 1009 = true := Dvs.ok ⟨by decide, by decide⟩
  generalize e4 : c.fdiv 1009 = c9
  have a4 := fmod_pos (a := c9) (b := 10007) (by decide)
  generalize e5 : c9.fmod 10007 = c10 at a4
  have m5 : bMul c10 17 = true := bMul_of 64 64 (by omega) (by decide) (by omega)
  have m6 : bMul (y7 + c10 * 17 + k) 69621 = true := bMul_of 64 64 (by omega) (by decide) (by omega)
  generalize hz : (y7 + c10 * 17 + k) * 69621 = z0
  have d11 : bDivZ (z0.fmod 2147483629) 11 = true := Dvs.ok ⟨by decide, by decide⟩
  generalize hz1 : z0.fmod 2147483629 = z at d11
  refine ⟨(z.fdiv 11).fmod b, y, z, fmod_pos hb, ?_⟩
  simp [iD, lD, hs, hb0, e1, m1, m2, hkk, m3, m4, hy, e2, d7, e3, d9, e4, e5, m5, m6, hz, d11, hz1]
theorem mixed_loop {c b : Int} (hb : 0 < b) (hb2 : Dvs b) (n : Option T) : ∀ (m : Nat) (lo : Int) (row : List Int) (l4 l5 l6 : Option T), 0 ≤ lo → lo + m ≤ 1000000 → row.length + m ≤ 1000000 → okRow b row →
    ∃ (row' : List Int) (l4' l5' l6' : Option T), row'.length = row.length + m ∧ okRow b row' ∧
      forM (asgR 4) (seqM (setS 5 (bin fMod (bin fMulI (bin fAdd (bin fAdd (bin fAdd (bin fMod (getM 0) (cst (.int 998244353))) (bin fMulI (bin fMulI (cst (.int 31)) (getM 4)) (getM 4))) (bin fMulI (cst (.int 1013)) (getM 4))) (cst (.int 1))) (cst (.int 48271))) (cst (.int 2147483647))))
  (seqM (setS 6 (bin fMod (bin fMulI (bin fAdd (bin fAdd (bin fDiv (getM 5) (cst (.int 7))) (bin fMulI (bin fMod (bin fDiv (getM 0) (cst (.int 1009))) (cst (.int 10007))) (cst (.int 17)))) (getM 4)) (cst (.int 69621))) (cst (.int 2147483629))))
  (exS (apE (getM 3) (bin fMod (bin fDiv (getM 6) (cst (.int 11))) (getM 1)))))) (irange lo m) [iD c, iD b, n, lD row, l4, l5, l6] = .ok .nx [iD c, iD b, n, lD row', l4', l5', l6']
  | 0, lo, row, l4, l5, l6, _, _, _, h => ⟨row, l4, l5, l6, rfl, h, rfl⟩
  | m + 1, lo, row, l4, l5, l6, h0, h1, h2, h => by
    obtain ⟨x, y, z, hx, e⟩ := mixed_step (c := c) (n := n) (l4 := l4) (l5 := l5) (l6 := l6) hb hb2 (k := lo) ⟨h0, by omega⟩ (row := row) (by omega)
    obtain ⟨row', l4', l5', l6', q1, q2, q3⟩ := mixed_loop hb hb2 n m (lo + 1) (row ++ [x]) (iD lo) (iD y) (iD z) (by omega) (by omega) (by simp; omega) (h.app hx)
    refine ⟨row', l4', l5', l6', by rw [q1]; simp; omega, q2, ?_⟩
    rw [irange_cons, forM_cons, e, bnd_ok, loop_nx]
    exact q3
theorem mixed_ok {c b : Int} {n : Nat} (hb : 0 < b) (hb2 : Dvs b) (hn : n ≤ 1000000) : ∃ row : List Int, row.length = n ∧ okRow b row ∧ f_mixed [.int c, .int b, .int n] = .ok (.lst none (row.map .int)) := by
  obtain ⟨row', l4, l5, l6, h1, h2, h3⟩ := mixed_loop (c := c) hb hb2 (iD n) n 0 [] none none none (by omega) (by omega) (by simp; omega) (fun _ h => absurd h List.not_mem_nil)
  refine ⟨row', by rw [h1]; simp, h2, ?_⟩
  unfold f_mixed g_mixed
  rw [run_eq]
  have hr : n ≤ 1000000000 := by omega
  simp only [lD, iD, List.map_nil] at h3
  simp [rng_nat _ hr, h3]
theorem row_ok {c b : Int} {n : Nat} (hb : 0 < b) (hb2 : Dvs b) (hn : n ≤ 1000000) : ∃ row : List Int, row.length = n ∧ okRow b row ∧ f_row [.int c, .int b, .int n] = .ok (.lst none (row.map .int)) := by
  have hp : bPow 10 18 = true := by decide
  unfold f_row g_row
  rw [run_eq]
  by_cases hc : (1000000000000000000 : Int) ≤ c.natAbs
  · obtain ⟨row, h1, h2, h3⟩ := digits_ok (c := c) hb hb2 hn
    refine ⟨row, h1, h2, ?_⟩
    simp [hp, hc, h3]
  · obtain ⟨row, h1, h2, h3⟩ := mixed_ok (c := c) hb hb2 hn
    refine ⟨row, h1, h2, ?_⟩
    simp [hp, hc, h3]
end DL

set_option Elab.async false
set_option maxRecDepth 100000
set_option maxHeartbeats 4000000
namespace DL
open PySem PySem.Spec PyProof.Rows L2
/-! ### comprehensions -/
section
variable {K : PySem.W.Frag} {P O : List Addr} {A : List V} {H H' : Hp} {σ σ' : L2.St} {ρ ρ' : Rho} {v : V}
theorem wipe_get {σ : L2.St} {i : Nat} : ∀ {vs : List Nat}, i ∉ vs → (wipe σ vs)[i]? = σ[i]?
  | [], _ => rfl
  | w :: vs, h => by
    unfold wipe
    rw [List.getElem?_set_ne (fun z => h (by rw [z]; exact List.mem_cons_self)), wipe_get fun z => h (List.mem_cons_of_mem _ z)]
/-- slots that are not known are anybody's -/
theorem EnvR.slots (e : EnvR K P A O H σ ρ) (hl : σ'.length = σ.length) (h : ∀ (i : Nat) (t : T), ρ[i]? = some (some t) → σ'[i]? = σ[i]?) : EnvR K P A O H σ' ρ where
  len := by rw [hl]; exact e.len
  at_ := by
    obtain ⟨Fs, h1, h2⟩ := e.at_
    refine ⟨Fs, fun i t q => ?_, h2⟩
    obtain ⟨v, e1, r⟩ := h1 i t q
    exact ⟨v, by rw [h i t q]; exact e1, r⟩
  prot := e.prot
  trk := e.trk
  tag := fun i k ds q => by
    obtain ⟨v, e1, e2⟩ := e.tag i k ds q
    exact ⟨v, by rw [h i _ q]; exact e1, e2⟩
theorem EnvR.forget (e : EnvR K P A O H σ ρ) (i : Nat) : EnvR K P A O H σ (ρ.set i none) where
  len := by rw [List.length_set]; exact e.len
  at_ := by
    obtain ⟨Fs, h1, h2⟩ := e.at_
    refine ⟨Fs, fun j t q => ?_, h2⟩
    rcases get_set q with ⟨_, q'⟩ | ⟨_, q'⟩
    · cases q'
    · exact h1 j t q'
  prot := e.prot
  trk := e.trk
  tag := fun j k ds q => by
    rcases get_set q with ⟨_, q'⟩ | ⟨_, q'⟩
    · cases q'
    · exact e.tag j k ds q'
def wipeR (ρ : Rho) : List Nat → Rho
  | [] => ρ
  | i :: is => (wipeR ρ is).set i none
theorem EnvR.wipe (e : EnvR K P A O H σ ρ) : ∀ is : List Nat, EnvR K P A O H σ (wipeR ρ is)
  | [] => e
  | i :: is => (EnvR.wipe e is).forget i
theorem wipeR_not {i : Nat} {t : T} : ∀ {is : List Nat}, (wipeR ρ is)[i]? = some (some t) → i ∉ is
  | [], _ => List.not_mem_nil
  | j :: is, h => by
    unfold wipeR at h
    rcases get_set h with ⟨_, q'⟩ | ⟨h1, q'⟩
    · cases q'
    · exact fun z => (List.mem_cons.mp z).elim h1 (wipeR_not q')
/-- the frame's slots, the own ones wiped, are those of any frame with the others alike -/
theorem EnvR.back {own : List Nat} (e : EnvR K P A O H σ' ρ) (hl : σ'.length = σ.length) (h : L2.wipe σ' own = L2.wipe σ own) : EnvR K P A O H σ (wipeR ρ own) :=
  (e.wipe own).slots hl.symm fun i t q => by
    have n := wipeR_not q
    rw [← wipe_get (σ := σ) n, ← h, wipe_get n]
/-- a thing is put into a slot that holds no own list -/
def put1 (i : Nat) (d : D) (ρ : Rho) : Option Rho := match ρ[i]? with
  | some none => some (ρ.set i (some (.val d)))
  | some (some (.val _)) => some (ρ.set i (some (.val d)))
  | _ => none
theorem EnvR.put1 {i : Nat} {d : D} (e : EnvR K P A O H σ ρ) (r : Rp K (wo (O ++ P) H) v d) (h : DL.put1 i d ρ = some ρ') : EnvR K P A O H (σ.set i (some v)) ρ' := by
  have key : i < ρ.length ∧ ρ' = ρ.set i (some (.val d)) := by
    unfold DL.put1 at h
    split at h
    · rename_i q
      cases h
      exact ⟨(List.getElem?_eq_some_iff.mp q).1, rfl⟩
    · rename_i q
      cases h
      exact ⟨(List.getElem?_eq_some_iff.mp q).1, rfl⟩
    · cases h
  obtain ⟨hi, rfl⟩ := key
  have hi2 : i < σ.length := by rw [← e.len]; exact hi
  obtain ⟨Fs, h1, h2⟩ := e.at_
  refine ⟨by rw [List.length_set, List.length_set]; exact e.len, ⟨fun j => if j = i then [] else Fs j, fun j t q => ?_, fun j k hjk b hb => ?_⟩, e.prot, e.trk, fun j k ds q => ?_⟩
  · dsimp only
    rcases get_set q with ⟨hj, q'⟩ | ⟨hj, q'⟩
    · subst hj
      cases q'
      rw [if_pos rfl]
      exact ⟨v, by simp [hi2], .val r, fun a ha => absurd ha List.not_mem_nil⟩
    · rw [if_neg hj]
      obtain ⟨w, e1, r1⟩ := h1 j t q'
      exact ⟨w, by rw [List.getElem?_set_ne (Ne.symm hj)]; exact e1, r1⟩
  · dsimp only at hb ⊢
    by_cases hj : j = i
    · rw [if_pos hj] at hb
      exact absurd hb List.not_mem_nil
    · rw [if_neg hj] at hb
      by_cases hk : k = i
      · rw [if_pos hk]
        exact List.not_mem_nil
      · rw [if_neg hk]
        exact h2 j k hjk b hb
  · rcases get_set q with ⟨hj, q'⟩ | ⟨hj, q'⟩
    · cases q'
    · obtain ⟨w, e1, e2⟩ := e.tag j k ds q'
      exact ⟨w, by rw [List.getElem?_set_ne (Ne.symm hj)]; exact e1, e2⟩
end
/-- pure targets: only slots among own change -/
def GP (K : PySem.W.Frag) (own : List Nat) (g : TG) (f : D → Rho → Option Rho) : Prop := ∀ (P : List Addr) (A : List V) (O : List Addr) (H : Hp) (σ : L2.St) (ρ ρ' : Rho) (v : V) (d : D) (Q : L2.St → Hp → Prop),
  EnvR K P A O H σ ρ → Rp K (wo (O ++ P) H) v d → f d ρ = some ρ' → (∀ σ', EnvR K P A O H σ' ρ' → wipe σ' own = wipe σ own → σ'.length = σ.length → Q σ' H) → g v σ H Q
def GPs (K : PySem.W.Frag) (own : List Nat) (g : TGs) (f : List D → Rho → Option Rho) : Prop := ∀ (P : List Addr) (A : List V) (O : List Addr) (H : Hp) (σ : L2.St) (ρ ρ' : Rho) (vs : List V) (ds : List D) (Q : L2.St → Hp → Prop),
  EnvR K P A O H σ ρ → RpAll K (wo (O ++ P) H) vs ds → f ds ρ = some ρ' → (∀ σ', EnvR K P A O H σ' ρ' → wipe σ' own = wipe σ own → σ'.length = σ.length → Q σ' H) → g vs σ H Q
def putNil : List D → Rho → Option Rho
  | [], ρ => some ρ
  | _, _ => none
def putCons (f : D → Rho → Option Rho) (fs : List D → Rho → Option Rho) : List D → Rho → Option Rho
  | [], _ => none
  | d :: ds, ρ => (f d ρ).bind (fs ds)
def putSeq (n : Nat) (fs : List D → Rho → Option Rho) : D → Rho → Option Rho
  | .tuple ds, ρ => if ds.length = n then fs ds ρ else none
  | .list ds, ρ => if ds.length = n then fs ds ρ else none
  | _, _ => none
section
variable {K : PySem.W.Frag} {own : List Nat}
theorem wipe_set {σ : L2.St} {i : Nat} {x : Option V} : ∀ {vs : List Nat}, i ∈ vs → wipe (σ.set i x) vs = wipe σ vs
  | [], h => absurd h List.not_mem_nil
  | w :: vs, h => by
    unfold wipe
    by_cases hi : i ∈ vs
    · rw [wipe_set hi]
    · have e : i = w := (List.mem_cons.mp h).resolve_right hi
      subst e
      have key : ∀ (σ : L2.St) (x : Option V) (ws : List Nat), i ∉ ws → (wipe (σ.set i x) ws) = (wipe σ ws).set i x := by
        intro σ x ws
        induction ws with
        | nil => exact fun _ => rfl
        | cons a ws ih =>
          intro hn
          unfold wipe
          rw [ih fun z => hn (List.mem_cons_of_mem _ z), List.set_comm _ _ (fun z => hn (by rw [z]; exact List.mem_cons_self))]
      rw [key σ x vs hi, List.set_set]
theorem gp_name {i : Nat} (h : i ∈ own) : GP K own (gName i) (put1 i) := by
  intro P A O H σ ρ ρ' v d Q e r hf hQ
  exact hQ _ (e.put1 r hf) (wipe_set h) (by rw [List.length_set])
theorem gps_nil : GPs K own gNil putNil := by
  intro P A O H σ ρ ρ' vs ds Q e r hf hQ
  cases r with
  | nil =>
    cases hf
    exact ⟨rfl, hQ σ e rfl rfl⟩
  | cons a b => cases hf
theorem gps_cons {g : TG} {gs : TGs} {f : D → Rho → Option Rho} {fs : List D → Rho → Option Rho} (h1 : GP K own g f) (h2 : GPs K own gs fs) : GPs K own (gCons g gs) (putCons f fs) := by
  intro P A O H σ ρ ρ' vs ds Q e r hf hQ
  cases r with
  | nil => cases hf
  | @cons v vs d ds a b =>
    unfold putCons at hf
    obtain ⟨ρ1, q1, q2⟩ := Option.bind_eq_some_iff.mp hf
    refine ⟨v, vs, rfl, h1 P A O H σ ρ ρ1 v d _ e a q1 fun σ1 e1 w1 l1 => ?_⟩
    exact h2 P A O H σ1 ρ1 ρ' vs ds Q e1 b q2 fun σ2 e2 w2 l2 => hQ σ2 e2 (w2.trans w1) (l2.trans l1)
theorem gp_seq {t : TGs} {n : Nat} {fs : List D → Rho → Option Rho} (h : GPs K own t fs) : GP K own (gSeq K n t) (putSeq n fs) := by
  intro P A O H σ ρ ρ' v d Q e r hf hQ
  cases r with
  | @tup a xs ds h1 h2 =>
    replace hf : (if ds.length = n then fs ds ρ else none) = some ρ' := hf
    by_cases hl : ds.length = n
    · rw [if_pos hl] at hf
      exact .inl ⟨a, xs, rfl, sqt_mono wo_sub h1, by rw [h2.length]; exact hl, h P A O H σ ρ ρ' xs ds Q e h2 hf hQ⟩
    · rw [if_neg hl] at hf
      cases hf
  | @lst a xs ds h1 h2 =>
    replace hf : (if ds.length = n then fs ds ρ else none) = some ρ' := hf
    by_cases hl : ds.length = n
    · rw [if_pos hl] at hf
      exact .inr ⟨a, xs, rfl, sql_mono wo_sub h1, by rw [h2.length]; exact hl, h P A O H σ ρ ρ' xs ds Q e h2 hf hQ⟩
    · rw [if_neg hl] at hf
      cases hf
  | non => cases hf
  | bl b => cases hf
  | int b => cases hf
  | str b => cases hf
theorem wipe_wipe {σ : L2.St} {vs : List Nat} : ∀ {ws : List Nat}, (∀ i ∈ ws, i ∈ vs) → wipe (wipe σ ws) vs = wipe σ vs
  | [], _ => rfl
  | w :: ws, h => by
    show wipe ((wipe σ ws).set w none) vs = _
    rw [wipe_set (h w List.mem_cons_self)]
    exact wipe_wipe fun i hi => h i (List.mem_cons_of_mem _ hi)
end
/-- one item: the own slots are the block's; behind it they are nobody's -/
def lcOne (f : D → Rho → Option Rho) (tt : M Bool) (me : M R) (own : List Nat) (d : D) (acc : List D) (ρ : Rho) : Out (List D) := match f d ρ with
  | none => .bad
  | some ρ1 => match tt ρ1 with
    | .ok false ρ2 => .ok acc (wipeR ρ2 own)
    | .ok true ρ2 => (match M.bind me frz ρ2 with
      | .ok y ρ3 => if acc.length < sizeLine then .ok (acc ++ [y]) (wipeR ρ3 own) else .bad
      | _ => .bad)
    | _ => .bad
def lcLoop (f : D → Rho → Option Rho) (tt : M Bool) (me : M R) (own : List Nat) : List D → List D → M (List D)
  | [], acc => .ret acc
  | d :: ds, acc => fun ρ => match lcOne f tt me own d acc ρ with
    | .ok acc' ρ' => lcLoop f tt me own ds acc' ρ'
    | .exc x ρ' => .exc x ρ'
    | .bad => .bad
def lcM (f : D → Rho → Option Rho) (tt : M Bool) (me : M R) (own : List Nat) (mi : M (List D)) : M R := M.bind mi fun ds ρ => match lcLoop f tt me own ds [] (wipeR ρ own) with
  | .ok xs ρ' => .ok (.tmp (.lst none xs)) ρ'
  | _ => .bad
abbrev W0 : WX := fun _ _ _ _ => False
theorem lcOne_noexc {f : D → Rho → Option Rho} {tt : M Bool} {me : M R} {own : List Nat} {d : D} {acc : List D} {ρ ρ' : Rho} {x : XD} : lcOne f tt me own d acc ρ ≠ .exc x ρ' := by
  unfold lcOne
  split
  · exact fun z => nomatch z
  · split
    · exact fun z => nomatch z
    · split
      · split <;> exact fun z => nomatch z
      · exact fun z => nomatch z
    · exact fun z => nomatch z
theorem lcOne_inv {f : D → Rho → Option Rho} {tt : M Bool} {me : M R} {own : List Nat} {d : D} {acc acc' : List D} {ρ ρ' : Rho} (q : lcOne f tt me own d acc ρ = .ok acc' ρ') : ∃ ρ1, f d ρ = some ρ1 ∧
    ((∃ ρ2, tt ρ1 = .ok false ρ2 ∧ acc' = acc ∧ ρ' = wipeR ρ2 own) ∨ ∃ ρ2 r ρ3 y ρ4, tt ρ1 = .ok true ρ2 ∧ me ρ2 = .ok r ρ3 ∧ frz r ρ3 = .ok y ρ4 ∧ acc.length < sizeLine ∧ acc' = acc ++ [y] ∧ ρ' = wipeR ρ4 own) := by
  unfold lcOne at q
  split at q
  · cases q
  · rename_i ρ1 h1
    refine ⟨ρ1, h1, ?_⟩
    split at q
    · rename_i ρ2 h2
      cases q
      exact .inl ⟨ρ2, h2, rfl, rfl⟩
    · rename_i ρ2 h2
      split at q
      · rename_i y ρ4 h4
        split at q
        · rename_i hl
          cases q
          unfold M.bind at h4
          cases h5 : me ρ2 with
          | bad => rw [h5] at h4; cases h4
          | exc x ρ' => rw [h5] at h4; cases h4
          | ok r ρ3 =>
            rw [h5] at h4
            exact .inr ⟨ρ2, r, ρ3, y, ρ4, h2, h5, h4, hl, rfl, rfl⟩
        · cases q
      · cases q
    · cases q
theorem wo_updP {Z : List Addr} {H : Hp} {p : Addr} {o : HO} (hp : p ∈ Z) : ∀ b u, wo Z H b = some u → wo Z (upd H p o) b = some u := fun b u q => by
  obtain ⟨q1, q2⟩ := wo_some.mp q
  refine wo_some.mpr ⟨q1, ?_⟩
  rw [upd_ne fun z => q1 (by rw [z]; exact hp)]
  exact q2
theorem Step.upNew {O O' : List Addr} {H H' : Hp} {p : Addr} {o : HO} (s : Step O H O' H') (h : H p = none) : Step O H O' (upd H' p o) :=
  ⟨s.own, fun a u z q => by
    rw [upd_ne (ne_of_none q h)]
    exact s.ext a u z q, fun a u q => by
    rw [upd_ne (ne_of_none q h)]
    exact s.stay a u q⟩
/-- a protected list is stored to -/
theorem EnvR.upP {K : PySem.W.Frag} {P O : List Addr} {A : List V} {H : Hp} {σ : L2.St} {ρ : Rho} {p : Addr} {o : HO} (e : EnvR K P A O H σ ρ) (hp : p ∈ P) : EnvR K P A O (upd H p o) σ ρ := by
  have nO : p ∉ O := (e.prot p hp).1
  have same : ∀ b u, wo (O ++ P) H b = some u → wo (O ++ P) (upd H p o) b = some u := fun b u q => by
    obtain ⟨q1, q2⟩ := wo_some.mp q
    refine wo_some.mpr ⟨q1, ?_⟩
    rw [upd_ne fun z => q1 (by rw [z]; exact List.mem_append_right _ hp)]
    exact q2
  obtain ⟨Fs, h1, h2⟩ := e.at_
  have ex : ∀ b, (∃ u, H b = some u) → ∃ u, upd H p o b = some u := fun b ⟨u, q⟩ => by
    by_cases z : b = p
    · subst z
      exact ⟨_, upd_same⟩
    · exact ⟨u, by rw [upd_ne z]; exact q⟩
  refine ⟨e.len, ⟨Fs, fun i t q => ?_, h2⟩, fun a ha => ⟨(e.prot a ha).1, ex a (e.prot a ha).2⟩, fun a ha => ex a (e.trk a ha), e.tag⟩
  obtain ⟨w, e1, r, hO⟩ := h1 i t q
  exact ⟨w, e1, r.keep same fun a ha => ⟨List.mem_append_left _ (hO a ha), upd_ne fun z => nO (by rw [← z]; exact hO a ha)⟩, hO⟩
section
variable {X : Cx} {W : WX} {elt tg iter : Expr} {ifs : List Expr} {scope : Scope} {own : List (Str × Nat)} {pos : Pos} {mi : M (List D)} {g : TG} {f : D → Rho → Option Rho} {mt : M Bool} {me : M R}
abbrev JTs (X : Cx) (W : WX) (ifs : List Expr) (m : M Bool) : Prop := PTs X ifs (tBo X.K X.mg W m)
theorem jts_nil : JTs X W [] (.ret true) := ⟨fun pins s σ H Q I h => pts_nil.run pins s σ H Q I (ret_B h)⟩
theorem jts_one {c : Expr} {m : M Bool} (h : JB X W c m) : JTs X W [c] m := pts_one h
def lcEnd (o : Out (List D)) : Out R := match o with
  | .ok xs ρ' => .ok (.tmp (.lst none xs)) ρ'
  | _ => .bad
theorem lc_read (hf : GP X.K (own.map (·.2)) g f) {σ : L2.St} {H : Hp} {Q : VK} (h : tR X.K X.mg W (lcM f mt me (own.map (·.2)) mi) σ H Q) : tLc (tI X.K X.mg W mi) g (tBo X.K X.mg W0 mt) (tR X.K X.mg W0 me) (own.map (·.2)) σ H Q := by
  obtain ⟨P, A, O, ρ, e, h⟩ := h
  refine ⟨P, A, O, ρ, e, (Aft.bind (rl := relI X.K σ) h).mono ?_⟩
  rintro J H1 ⟨O1, ρ1, ds, F, e1, ⟨rfl, hJ⟩, s1, h1⟩ Dn hD
  replace h1 := Aft.step h1 s1.less
  have e1 : EnvR X.K P A O1 H1 σ ρ1 := e1
  generalize hown : own.map (·.2) = vs at h1 hf ⊢
  have h1 : Aft (relR X.K σ) X.K X.mg W P A σ O1 H1 (lcEnd (lcLoop f mt me vs ds [] (wipeR ρ1 vs))) Q := h1
  have n2 : ∀ (i : Nat) (t : T), (wipeR ρ1 vs)[i]? = some (some t) → i ∉ vs := fun i t q => wipeR_not q
  generalize hρ : wipeR ρ1 vs = ρ2 at h1 n2
  have sD : Step O1 H1 O1 (upd H1 Dn (.lst [])) := Step.more (upd_more hD)
  have e2 : EnvR X.K ([Dn] ++ P) A O1 (upd H1 Dn (.lst [])) σ ρ2 := by
    rw [← hρ]
    exact ((e1.new (F := [Dn]) (upd_more hD) fun a ha => by
      rw [List.mem_singleton.mp ha]
      exact ⟨hD, _, upd_same⟩).wipe vs)
  refine ⟨fun i m H => m = ds.length - i ∧ i ≤ ds.length ∧ ∃ O ρ acc xs, EnvR X.K ([Dn] ++ P) A O H σ ρ ∧ (∀ (i : Nat) (t : T), ρ[i]? = some (some t) → i ∉ vs) ∧ Step O1 H1 O H ∧ H Dn = some (.lst acc) ∧ RpAll X.K (wo (O ++ ([Dn] ++ P)) H) acc xs ∧
    Aft (relR X.K σ) X.K X.mg W P A σ O1 H1 (lcEnd (lcLoop f mt me vs (ds.drop i) xs ρ)) Q, ⟨ds.length, by simp, Nat.zero_le _, O1, ρ2, [], [], e2, n2, sD, upd_same, .nil, h1⟩, ?_⟩
  rintro i m H2 ⟨rfl, hi, O2, ρ3, acc, xs, e3, n3, s3, hH, hx, h3⟩
  have J2 := hJ [Dn] A O2 H2 σ ρ3 (fun a ha => by rw [List.mem_singleton.mp ha]; exact hD) e3 s3 i
  by_cases hlt : i < ds.length
  · have hd : ds[i]? = some ds[i] := List.getElem?_eq_getElem hlt
    obtain ⟨g1, g2⟩ := J2.1 _ hd
    rw [List.drop_eq_getElem_cons hlt] at h3
    refine .inr ⟨g1, fun H => ∃ O ρ acc xs, EnvR X.K ([Dn] ++ P) A O H σ ρ ∧ (∀ (i : Nat) (t : T), ρ[i]? = some (some t) → i ∉ vs) ∧ Step O1 H1 O H ∧ H Dn = some (.lst acc) ∧ RpAll X.K (wo (O ++ ([Dn] ++ P)) H) acc xs ∧
      Aft (relR X.K σ) X.K X.mg W P A σ O1 H1 (lcEnd (lcLoop f mt me vs (ds.drop (i + 1)) xs ρ)) Q, fun H' z => ⟨ds.length - (i + 1), by omega, rfl, hlt, z⟩, fun x H' y => ?_⟩
    obtain ⟨m1, rv⟩ := g2 x H' y
    have e4 : EnvR X.K ([Dn] ++ P) A O2 H' σ ρ3 := e3.more m1
    have s4 : Step O1 H1 O2 H' := s3.trans (Step.more m1)
    have hH' : H' Dn = some (.lst acc) := m1 _ _ hH
    have hx' : RpAll X.K (wo (O2 ++ ([Dn] ++ P)) H') acc xs := hx.mono (wo_le m1)
    unfold lcLoop at h3
    cases q1 : lcOne f mt me vs ds[i] xs ρ3 with
    | bad =>
      simp only [q1] at h3
      exact h3.elim
    | exc x ρ' => exact (lcOne_noexc q1).elim
    | ok acc' ρ' =>
      simp only [q1] at h3
      obtain ⟨ρ4, qf, qq⟩ := lcOne_inv q1
      have e5 : EnvR X.K ([Dn] ++ P) A O2 H' (wipe σ vs) ρ3 := e4.slots (wipe_length _ _) fun i t q => wipe_get (n3 i t q)
      refine hf _ A O2 H' (wipe σ vs) ρ3 ρ4 x _ _ e5 rv qf fun σ2 e6 w6 l6 => ?_
      have w7 : wipe σ2 vs = wipe σ vs := w6.trans (wipe_wipe fun _ h => h)
      have l7 : σ2.length = σ.length := l6.trans (wipe_length _ _)
      have nD : ∀ {O : List Addr} {H : Hp} {σ : L2.St} {ρ : Rho}, EnvR X.K ([Dn] ++ P) A O H σ ρ → Dn ∉ O := fun e => (e.prot Dn (List.mem_append_left _ (List.mem_singleton.mpr rfl))).1
      refine ⟨w7, [Dn] ++ P, A, O2, ρ4, e6, ?_⟩
      rcases qq with ⟨ρ5, q2, rfl, rfl⟩ | ⟨ρ5, r, ρ6, d, ρ7, q2, q3, q4, hl, rfl, rfl⟩
      · rw [q2]
        rintro b H3 O3 F e7 rfl s7
        rw [if_neg (by decide)]
        exact ⟨O3, wipeR ρ5 vs, acc, acc', e7.less.back l7 w7, fun i t q => wipeR_not q, s4.trans s7.less, s7.ext _ _ (nD e4) hH', hx'.mono (s7.less.wo e4.prot), h3⟩
      · rw [q2]
        rintro b H3 O3 F e7 rfl s7
        rw [if_pos rfl]
        have e8 := e7.less
        have hH3 : H3 Dn = some (.lst acc) := s7.ext _ _ (nD e4) hH'
        have hx3 := hx'.mono (s7.less.wo e4.prot)
        refine ⟨[Dn] ++ P, A, O3, ρ5, e8, ?_⟩
        rw [q3]
        intro v H4 O4 F2 e9 r9 s9
        obtain ⟨O5, e10, s10, rp⟩ := frz_ok e9 r9 q4
        have s11 := s9.less.trans s10
        have hH4 : H4 Dn = some (.lst acc) := s11.ext _ _ (nD e8) hH3
        have hx4 := hx3.mono (s11.wo e8.prot)
        have mD : Dn ∈ O5 ++ ([Dn] ++ P) := List.mem_append_right _ (List.mem_append_left _ (List.mem_singleton.mpr rfl))
        refine ⟨acc, hH4, by rw [hx4.length]; exact hl, O5, wipeR ρ7 vs, acc ++ [v], xs ++ [d], (e10.upP (List.mem_append_left _ (List.mem_singleton.mpr rfl))).back l7 w7, fun i t q => wipeR_not q, ?_, upd_same, ?_, h3⟩
        · exact ((s4.trans s7.less).trans s11).upNew hD
        · exact (hx4.append (.cons rp .nil)).mono (wo_updP mD)
  · have hl : i = ds.length := by omega
    rw [List.drop_of_length_le (by omega)] at h3
    refine .inl ⟨J2.2 (by omega), ?_⟩
    have h4 : Aft (relR X.K σ) X.K X.mg W P A σ O1 H1 (.ok (.tmp (.lst none xs)) ρ3) Q := h3
    refine h4 (.ref Dn) H2 O2 [Dn] e3 ⟨.lst (List.mem_append_left _ (List.mem_singleton.mpr rfl)) hH (hx.mono fun a o z => ?_), fun a ha z => ?_, fun _ _ z => by cases z⟩ ⟨fun a ha => ?_, s3.ext, s3.stay⟩
    · obtain ⟨z1, z2⟩ := wo_some.mp z
      simp only [List.mem_append, not_or] at z1
      exact wo_some.mpr ⟨by simp only [List.mem_append, not_or]; exact ⟨z1.2.1, z1.1, z1.2.2⟩, z2⟩
    · rw [List.mem_singleton.mp ha] at z
      obtain ⟨_, o, q⟩ := e1.prot _ z
      rw [hD] at q
      cases q
    · rcases List.mem_append.mp ha with z | z
      · rw [List.mem_singleton.mp z]
        exact .inr hD
      · exact s3.own a z
theorem j_lc (hc : X.calm = true) (hN : X.N.Nodup) (hi : JI X W tg iter mi) (ok : BlkOk X.N X.env.scope scope own) (hf : GP X.K (own.map (·.2)) g f)
    (hg : ∀ (s : Shared) (H : Hp) (C : Addr) (cl : List (Str × Addr)) (fp : List Addr), PG (X.blk s H scope (compEnvC scope cl C X.env) fp) tg g) (ht : ∀ (s : Shared) (H : Hp) (C : Addr) (cl : List (Str × Addr)) (fp : List Addr), JTs (X.blk s H scope (compEnvC scope cl C X.env) fp) W0 ifs mt)
    (he : ∀ (s : Shared) (H : Hp) (C : Addr) (cl : List (Str × Addr)) (fp : List Addr), JE (X.blk s H scope (compEnvC scope cl C X.env) fp) W0 elt me) (hs : ∀ x, foldedSetIterable iter X.env x = pure x) :
    JE X W (.ListComp elt [⟨tg, iter, ifs, 0⟩] scope pos) (lcM f mt me (own.map (·.2)) mi) := (pe_lc hc hN hi ok hg ht he hs).imp fun σ H Q h => lc_read hf h
/-- name = [..] on one line -/
theorem js_setLc {i : Nat} {y : Str} {py spos : Pos} (hc : X.calm = true) (hN : X.N.Nodup) (hy : X.N[i]? = some y) (hyl : X.env.scope.names.lookup y = some .local)
    (hsw : swapsWith (.ListComp elt [⟨tg, iter, ifs, 0⟩] scope pos) (some (.Name y py)) spos.line X.env = pure true) (hi : JI X W tg iter mi) (ok : BlkOk X.N X.env.scope scope own) (hf : GP X.K (own.map (·.2)) g f)
    (hg : ∀ (s : Shared) (H : Hp) (C : Addr) (cl : List (Str × Addr)) (fp : List Addr), PG (X.blk s H scope (compEnvC scope cl C X.env) fp) tg g) (ht : ∀ (s : Shared) (H : Hp) (C : Addr) (cl : List (Str × Addr)) (fp : List Addr), JTs (X.blk s H scope (compEnvC scope cl C X.env) fp) W0 ifs mt)
    (he : ∀ (s : Shared) (H : Hp) (C : Addr) (cl : List (Str × Addr)) (fp : List Addr), JE (X.blk s H scope (compEnvC scope cl C X.env) fp) W0 elt me) (hs : ∀ x, foldedSetIterable iter X.env x = pure x) :
    JS X W (.Assign [.Name y py] (.ListComp elt [⟨tg, iter, ifs, 0⟩] scope pos) spos) (setS i (lcM f mt me (own.map (·.2)) mi)) :=
  js_set (ps_setLc hc hN hy hyl hsw hi ok hg ht he hs) fun σ H Q h => lc_read hf h
end
end DL

set_option Elab.async false
set_option maxRecDepth 100000
set_option maxHeartbeats 4000000
namespace DL
open PySem PySem.Spec PyProof.Rows L2
/-! ### more built-ins -/
theorem paired1 {K : PySem.W.Frag} {Z : List Addr} {H : Hp} {vs : List V} {d : D} (h : Paired (VR K Z H) vs [d]) : ∃ v, vs = [v] ∧ VR K Z H v d := by
  cases h with
  | cons a b =>
    cases b
    exact ⟨_, rfl, a⟩
theorem paired2 {K : PySem.W.Frag} {Z : List Addr} {H : Hp} {vs : List V} {d d' : D} (h : Paired (VR K Z H) vs [d, d']) : ∃ v v', vs = [v, v'] ∧ VR K Z H v d ∧ VR K Z H v' d' := by
  cases h with
  | cons a b =>
    obtain ⟨v', rfl, r⟩ := paired1 b
    exact ⟨_, _, rfl, a, r⟩
def fMax2 : List D → Option T
  | [.int i, .int j] => some (.val (.int (if j > i then j else i)))
  | _ => none
def fMin2 : List D → Option T
  | [.int i, .int j] => some (.val (.int (if j < i then j else i)))
  | _ => none
theorem max2_ok {K : PySem.W.Frag} : CallOk K (fun xs H Q => ∃ i j, xs = [.int i, .int j] ∧ Q (.int (if j > i then j else i)) H) fMax2 := by
  intro Z H vs ds t Q hz hv hf q
  unfold fMax2 at hf
  split at hf
  · cases hf
    obtain ⟨v, v', rfl, a, b⟩ := paired2 hv
    cases a.int
    cases b.int
    exact ⟨_, _, rfl, q _ _ (NewT.scal (.int _))⟩
  · cases hf
theorem min2_ok {K : PySem.W.Frag} : CallOk K (fun xs H Q => ∃ i j, xs = [.int i, .int j] ∧ Q (.int (if j < i then j else i)) H) fMin2 := by
  intro Z H vs ds t Q hz hv hf q
  unfold fMin2 at hf
  split at hf
  · cases hf
    obtain ⟨v, v', rfl, a, b⟩ := paired2 hv
    cases a.int
    cases b.int
    exact ⟨_, _, rfl, q _ _ (NewT.scal (.int _))⟩
  · cases hf
def fInt1 : List D → Option T
  | [.int i] => some (.val (.int i))
  | [.bool k] => some (.val (.int (if k then 1 else 0)))
  | _ => none
theorem int1_ok {K : PySem.W.Frag} : CallOk K (fun xs H Q => (∃ i, xs = [.int i] ∧ Q (.int i) H) ∨ ∃ k, xs = [.bl k] ∧ Q (.int (if k then 1 else 0)) H) fInt1 := by
  intro Z H vs ds t Q hz hv hf q
  unfold fInt1 at hf
  split at hf
  · cases hf
    obtain ⟨v, rfl, a⟩ := paired1 hv
    cases a.int
    exact .inl ⟨_, rfl, q _ _ (NewT.scal (.int _))⟩
  · cases hf
    obtain ⟨v, rfl, a⟩ := paired1 hv
    cases a.bool
    exact .inr ⟨_, rfl, q _ _ (NewT.scal (.int _))⟩
  · cases hf
def fTuple : List D → Option T
  | [.list ds] => some (.val (.tuple ds))
  | [.tuple ds] => some (.val (.tuple ds))
  | _ => none
theorem tuple_ok {K : PySem.W.Frag} : CallOk K (fun xs H Q => ∃ p ys, xs = [.ref p] ∧ ((SqL K H p ys ∧ ∀ l, H l = none → Q (.ref l) (upd H l (.tup ys))) ∨ (SqT K H p ys ∧ Q (.ref p) H))) fTuple := by
  intro Z H vs ds t Q hz hv hf q
  unfold fTuple at hf
  split at hf
  · cases hf
    obtain ⟨v, rfl, a⟩ := paired1 hv
    obtain ⟨p, ws, rfl, h1, h2⟩ := a.list
    exact ⟨p, ws, rfl, .inl ⟨h1, fun l hl => q _ _ (NewT.tup hl (hz l hl) h2)⟩⟩
  · cases hf
    obtain ⟨v, rfl, a⟩ := paired1 hv
    obtain ⟨p, ws, rfl, h1, h2, h3⟩ := a.tuple
    exact ⟨p, ws, rfl, .inr ⟨h1, q _ _ (NewT.val h3)⟩⟩
  · cases hf
def fList : List D → Option T
  | [.list ds] => some (.lst none ds)
  | [.tuple ds] => some (.lst none ds)
  | _ => none
theorem list_ok {K : PySem.W.Frag} : CallOk K (fun xs H Q => ∃ p ys, xs = [.ref p] ∧ (SqL K H p ys ∨ SqT K H p ys) ∧ ∀ l, H l = none → Q (.ref l) (upd H l (.lst ys))) fList := by
  intro Z H vs ds t Q hz hv hf q
  unfold fList at hf
  split at hf
  · cases hf
    obtain ⟨v, rfl, a⟩ := paired1 hv
    obtain ⟨p, ws, rfl, h1, h2⟩ := a.list
    exact ⟨p, ws, rfl, .inl h1, fun l hl => q _ _ (NewT.lst hl h2)⟩
  · cases hf
    obtain ⟨v, rfl, a⟩ := paired1 hv
    obtain ⟨p, ws, rfl, h1, h2, h3⟩ := a.tuple
    exact ⟨p, ws, rfl, .inr h1, fun l hl => q _ _ (NewT.lst hl h2)⟩
  · cases hf
def asBools : List D → Option (List Bool)
  | [] => some []
  | .bool b :: ds => (asBools ds).map (b :: ·)
  | _ => none
def asInts : List D → Option (List Int)
  | [] => some []
  | .int b :: ds => (asInts ds).map (b :: ·)
  | _ => none
theorem asBools_V {K : PySem.W.Frag} {H : Hp} : ∀ {ds : List D} {vs : List V} {bs : List Bool}, RpAll K H vs ds → asBools ds = some bs → vs = bs.map V.bl
  | [], _, _, .nil, h => by
    cases h
    rfl
  | d :: ds, _, bs, .cons a b, h => by
    unfold asBools at h
    split at h
    · rename_i z
      exact absurd z (List.cons_ne_nil _ _)
    · rename_i e
      cases e
      obtain ⟨cs, q1, rfl⟩ := Option.map_eq_some_iff.mp h
      cases a
      rw [asBools_V b q1]
      rfl
    · cases h
theorem asInts_V {K : PySem.W.Frag} {H : Hp} : ∀ {ds : List D} {vs : List V} {bs : List Int}, RpAll K H vs ds → asInts ds = some bs → vs = bs.map V.int
  | [], _, _, .nil, h => by
    cases h
    rfl
  | d :: ds, _, bs, .cons a b, h => by
    unfold asInts at h
    split at h
    · rename_i z
      exact absurd z (List.cons_ne_nil _ _)
    · rename_i e
      cases e
      obtain ⟨cs, q1, rfl⟩ := Option.map_eq_some_iff.mp h
      cases a
      rw [asInts_V b q1]
      rfl
    · cases h
def fAll : List D → Option T
  | [.list ds] => (asBools ds).map fun bs => .val (.bool (bs.all id))
  | _ => none
def fAny : List D → Option T
  | [.list ds] => (asBools ds).map fun bs => .val (.bool (bs.any id))
  | _ => none
def fSum : List D → Option T
  | [.list ds] => (asInts ds).map fun bs => .val (.int bs.sum)
  | _ => none
theorem all_ok {K : PySem.W.Frag} : CallOk K (rAll K) fAll := by
  intro Z H vs ds t Q hz hv hf q
  unfold fAll at hf
  split at hf
  · obtain ⟨bs, q1, rfl⟩ := Option.map_eq_some_iff.mp hf
    obtain ⟨v, rfl, a⟩ := paired1 hv
    obtain ⟨p, ws, rfl, h1, h2⟩ := a.list
    exact ⟨p, bs, rfl, by rw [← asBools_V h2 q1]; exact h1, q _ _ (NewT.scal (.bl _))⟩
  · cases hf
theorem any_ok {K : PySem.W.Frag} : CallOk K (rAny K) fAny := by
  intro Z H vs ds t Q hz hv hf q
  unfold fAny at hf
  split at hf
  · obtain ⟨bs, q1, rfl⟩ := Option.map_eq_some_iff.mp hf
    obtain ⟨v, rfl, a⟩ := paired1 hv
    obtain ⟨p, ws, rfl, h1, h2⟩ := a.list
    exact ⟨p, bs, rfl, by rw [← asBools_V h2 q1]; exact h1, q _ _ (NewT.scal (.bl _))⟩
  · cases hf
theorem sum_ok {K : PySem.W.Frag} : CallOk K (rSum K) fSum := by
  intro Z H vs ds t Q hz hv hf q
  unfold fSum at hf
  split at hf
  · obtain ⟨bs, q1, rfl⟩ := Option.map_eq_some_iff.mp hf
    obtain ⟨v, rfl, a⟩ := paired1 hv
    obtain ⟨p, ws, rfl, h1, h2⟩ := a.list
    exact ⟨p, bs, rfl, by rw [← asInts_V h2 q1]; exact h1, q _ _ (NewT.scal (.int _))⟩
  · cases hf
def fStr : List D → Option T
  | [.int i] => if i.natAbs.log2 < 1920 then some (.val (.str (toString i))) else none
  | _ => none
theorem str_ok {K : PySem.W.Frag} : CallOk K (fun xs H Q => ∃ i, xs = [.int i] ∧ i.natAbs.log2 < 1920 ∧ Q (.str (toString i)) H) fStr := by
  intro Z H vs ds t Q hz hv hf q
  unfold fStr at hf
  split at hf
  · split at hf
    · rename_i h
      cases hf
      obtain ⟨v, rfl, a⟩ := paired1 hv
      cases a.int
      exact ⟨_, rfl, h, q _ _ (NewT.scal (.str _))⟩
    · cases hf
  · cases hf
/-! ### a written dict of text keys, asked at once -/
def argsM : List (M R) → M (List R)
  | [] => argN
  | m :: ms => argC m (argsM ms)
def trsOf (K : PySem.W.Frag) (mg : Str → Option Value) (W : WX) : List Str → List (M R) → List (TE × TE)
  | k :: ks, m :: ms => (tC (.str k), tR K mg W m) :: trsOf K mg W ks ms
  | _, _ => []
def zipKV (ks : List Str) (vs : List V) : List (V × V) := (ks.zip vs).map fun p => (V.str p.1, p.2)
def zipK (ks : List Str) (vs : List V) : List (Key × V) := (ks.zip vs).map fun p => (Sum.inr p.1, p.2)
theorem pairs_read {K : PySem.W.Frag} {mg : Str → Option Value} {W : WX} : ∀ {ks : List Str} {ms : List (M R)} {σ : L2.St} {H : Hp} {Q : List (V × V) → Hp → Prop}, ks.length = ms.length → (tRs K mg W (argsM ms) σ H fun vs H' => Q (zipKV ks vs) H') → tPairs (trsOf K mg W ks ms) σ H Q
  | [], [], σ, H, Q, _, h => by
    obtain ⟨P, A, O, ρ, e, h⟩ := h
    exact h [] H O [] e .nil (Step.refl _ _)
  | [], _ :: _, _, _, _, hl, _ => by cases hl
  | _ :: _, [], _, _, _, hl, _ => by cases hl
  | k :: ks, m :: ms, σ, H, Q, hl, h => by
    obtain ⟨P, A, O, ρ, e, h⟩ := h
    show tR K mg W m σ H fun y H2 => tPairs (trsOf K mg W ks ms) σ H2 fun ps H3 => Q ((.str k, y) :: ps) H3
    refine ⟨P, A, O, ρ, e, (Aft.bind (rl := relR K σ) h).mono ?_⟩
    rintro x H1 ⟨O1, ρ1, ra, F, e1, r1, s1, h1⟩
    refine pairs_read (by simpa using hl) ⟨F ++ P, A, O1, ρ1, e1, (Aft.bindP (rl := relRs K σ) F s1.less h1).mono ?_⟩
    rintro ys H2 ⟨O2, ρ2, rb, G, e2, r2, s2, h2⟩
    exact h2 (x :: ys) H2 O2 (G ++ F) (by rw [List.append_assoc]; exact e2) (.cons (r1.step s2.less e1.off) r2 rfl) (s1.transF s2)
def assocS (k : Str) : List (Str × D) → Option D → Option D
  | [], o => o
  | p :: ps, o => assocS k ps (if p.1 = k then some p.2 else o)
theorem assoc_rp {K : PySem.W.Frag} {H : Hp} {k : Str} : ∀ {ks : List Str} {vs : List V} {ds : List D} {acc : List (Key × V)} {o : Option D} {d : D}, RpAll K H vs ds → (∀ e, o = some e → ∃ v, valV acc (Sum.inr k) = some v ∧ Rp K H v e) → assocS k (ks.zip ds) o = some d → ∃ v, valV (mergeK acc (zipK ks vs)) (Sum.inr k) = some v ∧ Rp K H v d
  | [], vs, ds, acc, o, d, _, ho, h => by
    have e : zipK [] vs = [] := by simp [zipK]
    rw [e]
    exact ho d (by simpa [assocS] using h)
  | q :: ks, _, _, acc, o, d, .nil, ho, h => by
    have e : zipK (q :: ks) [] = [] := by simp [zipK]
    rw [e]
    exact ho d (by simpa [assocS] using h)
  | q :: ks, _, _, acc, o, d, .cons (v := v) (vs := vs) (d := e) (ds := ds) a b, ho, h => by
    have e1 : mergeK acc (zipK (q :: ks) (v :: vs)) = mergeK (putK acc (Sum.inr q) v) (zipK ks vs) := rfl
    rw [e1]
    refine assoc_rp (o := if q = k then some e else o) b (fun e' he => ?_) h
    rw [valV_put]
    by_cases hk : q = k
    · subst hk
      rw [if_pos rfl] at he ⊢
      cases he
      exact ⟨v, rfl, a⟩
    · rw [if_neg hk] at he
      rw [if_neg fun z => hk (Sum.inr.inj z).symm]
      exact ho e' he
def fAssoc (ks : List Str) (ds : List D) : D → Option T
  | .str k => (assocS k (ks.zip ds) none).map .val
  | _ => none
def dispIx (ks : List Str) (ms : List (M R)) (mk : M R) : M R := M.bind (argsM ms) fun rs => M.bind (frzs rs) fun ds => M.bind mk fun rk => op1 (fAssoc ks ds) rk
section
variable {X : Cx} {W : WX}
theorem j_dispIx {pos dpos : Pos} {keys : List (Option Expr)} {values : List Expr} {i : Expr} {ks : List Str} {ms : List (M R)} {mk : M R} (hu : X.A.units + 1 < cLine) (hp : PPs X dpos keys values (trsOf X.K X.mg W ks ms)) (hl : ks.length = ms.length) (h15k : ks.length ≤ 15)
    (hall : keys.all (·.isSome) = true) (hlen : keys.length = values.length) (h0 : keys ≠ []) (h15 : keys.length ≤ 15) (hi : JE X W i mk) (hs : NoSl i) : JE X W (.Subscript (.Dict keys values dpos) i pos) (dispIx ks ms mk) :=
  (pe_dget hu (pe_disp hp hall hlen h0 h15) hi hs).imp fun σ H Q h => by
    obtain ⟨P, A, O, ρ, e, h⟩ := h
    intro p hp
    have sD : Step O H O (upd H p (.dK [])) := Step.more (upd_more hp)
    have e0 : EnvR X.K ([p] ++ P) A O (upd H p (.dK [])) σ ρ := e.new (F := [p]) (upd_more hp) fun a ha => by
      rw [List.mem_singleton.mp ha]
      exact ⟨hp, _, upd_same⟩
    have mp : p ∈ [p] ++ P := List.mem_append_left _ (List.mem_singleton.mpr rfl)
    refine pairs_read hl ⟨[p] ++ P, A, O, ρ, e0, (Aft.bindP (rl := relRs X.K σ) [p] sD h).mono ?_⟩
    rintro vs H1 ⟨O1, ρ1, rs, F, e1, r1, s1, h1⟩
    have hH1 : H1 p = some (.dK []) := s1.ext p _ ((e0.prot p mp).1) upd_same
    refine ⟨hH1, zipK ks vs, ?_, ?_, ?_⟩
    · simp [zipKV, zipK, kV]
    · simp only [zipK, List.length_map, List.length_zip]
      omega
    · unfold M.bind at h1
      cases q : frzs rs ρ1 with
      | bad =>
        rw [q] at h1
        exact h1.elim
      | exc x ρ' => exact (frzs_noexc q).elim
      | ok ds ρ2 =>
        rw [q] at h1
        obtain ⟨O2, e2, s2, rp⟩ := frzs_ok e1 r1 q
        have e3 := e2.upP (o := .dK (mergeK [] (zipK ks vs))) mp
        have s3 : Step O H O2 (upd H1 p (.dK (mergeK [] (zipK ks vs)))) := (sD.trans (s1.less.trans s2)).upNew hp
        have rp3 := rp.mono (wo_updP (o := .dK (mergeK [] (zipK ks vs))) (List.mem_append_right O2 mp))
        have h1 : Aft (relR X.K σ) X.K X.mg W P A σ O H (M.bind mk (fun rk => op1 (fAssoc ks ds) rk) ρ2) Q := h1
        refine ⟨[p] ++ P, A, O2, ρ2, e3, (Aft.bindP (rl := relR X.K σ) [p] s3 h1).mono ?_⟩
        rintro y H4 ⟨O4, ρ4, rk, F4, e4, r4, s4, h4⟩
        have hH4 : H4 p = some (.dK (mergeK [] (zipK ks vs))) := s4.ext p _ ((e3.prot p mp).1) upd_same
        unfold op1 at h4
        cases ql : look rk ρ4 with
        | none =>
          rw [ql] at h4
          exact h4.elim
        | some kd =>
          rw [ql] at h4
          simp only at h4
          have vk := look_vr e4.less r4 ql
          cases kd with
          | str k =>
            cases qa : assocS k (ks.zip ds) none with
            | none =>
              simp only [fAssoc, qa, Option.map_none] at h4
              exact h4.elim
            | some d =>
              simp only [fAssoc, qa, Option.map_some] at h4
              cases vk.str
              obtain ⟨v, g1, g2⟩ := assoc_rp (acc := []) rp3 (fun _ z => by cases z) qa
              refine ⟨p, v, rfl, by rw [← g1]; exact DGet.k (k := Sum.inr k) hH4, ?_⟩
              have g3 := g2.mono (s4.less.wo e3.prot)
              exact Aft.tmp (h4.step (s3.trans s4.less)) (e4.less.less (F := [p])) (NewT.val (g3.mono fun a o z => by
                obtain ⟨z1, z2⟩ := wo_some.mp z
                exact wo_some.mpr ⟨fun y => z1 (by
                  rcases List.mem_append.mp y with y | y
                  · exact List.mem_append_left _ y
                  · exact List.mem_append_right _ (List.mem_append_right _ y)), z2⟩))
          | _ => exact h4.elim
end
end DL

set_option Elab.async false
set_option maxRecDepth 100000
set_option maxHeartbeats 4000000
namespace DL
open PySem PySem.Spec PyProof.Rows L2
/-! ### running: comprehensions, targets, texts -/
section
variable {ρ : Rho}
def lcFin (o : Out (List D)) : Out R := match o with
  | .ok xs ρ' => .ok (.tmp (.lst none xs)) ρ'
  | _ => .bad
@[simp] theorem lcFin_ok (xs : List D) (ρ : Rho) : lcFin (.ok xs ρ) = .ok (.tmp (.lst none xs)) ρ := (rfl)
@[simp] theorem lcM_ap (f : D → Rho → Option Rho) (tt : M Bool) (me : M R) (own : List Nat) (mi : M (List D)) (ρ : Rho) : lcM f tt me own mi ρ = (mi ρ).bnd fun ds ρ => lcFin (lcLoop f tt me own ds [] (wipeR ρ own)) := (rfl)
@[simp] theorem wipeR_nil (ρ : Rho) : wipeR ρ [] = ρ := (rfl)
@[simp] theorem wipeR_cons (ρ : Rho) (i : Nat) (is : List Nat) : wipeR ρ (i :: is) = (wipeR ρ is).set i none := (rfl)
def putO (i : Nat) (d : D) (ρ : Rho) : Option (Option T) → Option Rho
  | some none => some (ρ.set i (some (.val d)))
  | some (some (.val _)) => some (ρ.set i (some (.val d)))
  | _ => none
@[simp] theorem put1_ap (i : Nat) (d : D) (ρ : Rho) : put1 i d ρ = putO i d ρ ρ[i]? := (rfl)
@[simp] theorem putO_none (i : Nat) (d : D) (ρ : Rho) : putO i d ρ (some none) = some (ρ.set i (some (.val d))) := (rfl)
@[simp] theorem putO_val (i : Nat) (d e : D) (ρ : Rho) : putO i d ρ (some (some (.val e))) = some (ρ.set i (some (.val d))) := (rfl)
@[simp] theorem putNil_ap (ρ : Rho) : putNil [] ρ = some ρ := (rfl)
@[simp] theorem putCons_ap (f : D → Rho → Option Rho) (fs : List D → Rho → Option Rho) (d : D) (ds : List D) (ρ : Rho) : putCons f fs (d :: ds) ρ = (f d ρ).bind (fs ds) := (rfl)
@[simp] theorem putSeq_t (n : Nat) (fs : List D → Rho → Option Rho) (ds : List D) (ρ : Rho) : putSeq n fs (.tuple ds) ρ = if ds.length = n then fs ds ρ else none := (rfl)
@[simp] theorem putSeq_l (n : Nat) (fs : List D → Rho → Option Rho) (ds : List D) (ρ : Rho) : putSeq n fs (.list ds) ρ = if ds.length = n then fs ds ρ else none := (rfl)
/-- a comprehension that leaves the slots as they are: what each item gives -/
theorem lcLoop_fm {f : D → Rho → Option Rho} {tt : M Bool} {me : M R} {own : List Nat} (g : D → Option D) : ∀ (ds acc : List D), (∀ d ∈ ds, match g d with
      | some y => ∃ ρ1 ρ2 r ρ3 ρ4, f d ρ = some ρ1 ∧ tt ρ1 = .ok true ρ2 ∧ me ρ2 = .ok r ρ3 ∧ frz r ρ3 = .ok y ρ4 ∧ wipeR ρ4 own = ρ
      | none => ∃ ρ1 ρ2, f d ρ = some ρ1 ∧ tt ρ1 = .ok false ρ2 ∧ wipeR ρ2 own = ρ) → acc.length + ds.length ≤ 16777216 → lcLoop f tt me own ds acc ρ = .ok (acc ++ ds.filterMap g) ρ
  | [], acc, _, _ => by simp [lcLoop]
  | d :: ds, acc, h, hl => by
    have h1 := h d List.mem_cons_self
    simp only [List.length_cons] at hl
    unfold lcLoop
    cases q : g d with
    | some y =>
      rw [q] at h1
      obtain ⟨ρ1, ρ2, r, ρ3, ρ4, a1, a2, a3, a4, a5⟩ := h1
      have e : lcOne f tt me own d acc ρ = .ok (acc ++ [y]) ρ := by
        unfold lcOne
        have a6 : M.bind me frz ρ2 = .ok y ρ4 := by
          rw [bind_ap, a3, bnd_ok, a4]
        simp only [a1, a2, a6, if_pos (sizeLine_lt (show acc.length < 16777216 by omega)), a5]
      rw [e]
      dsimp only
      rw [lcLoop_fm g ds (acc ++ [y]) (fun d hd => h d (List.mem_cons_of_mem _ hd)) (by simp; omega)]
      simp [q]
    | none =>
      rw [q] at h1
      obtain ⟨ρ1, ρ2, a1, a2, a3⟩ := h1
      have e : lcOne f tt me own d acc ρ = .ok acc ρ := by
        unfold lcOne
        simp only [a1, a2, a3]
      rw [e]
      dsimp only
      rw [lcLoop_fm g ds acc (fun d hd => h d (List.mem_cons_of_mem _ hd)) (by omega)]
      simp [q]
theorem lcLoop_map {f : D → Rho → Option Rho} {me : M R} {own : List Nat} (g : D → D) {ds : List D} (h : ∀ d ∈ ds, ∃ ρ1 r ρ3 ρ4, f d ρ = some ρ1 ∧ me ρ1 = .ok r ρ3 ∧ frz r ρ3 = .ok (g d) ρ4 ∧ wipeR ρ4 own = ρ) (hl : ds.length ≤ 16777216) :
    lcLoop f (M.ret true) me own ds [] ρ = .ok (ds.map g) ρ := by
  rw [lcLoop_fm (fun d => some (g d)) ds [] (fun d hd => by
    obtain ⟨ρ1, r, ρ3, ρ4, a1, a2, a3, a4⟩ := h d hd
    exact ⟨ρ1, ρ1, r, ρ3, ρ4, a1, rfl, a2, a3, a4⟩) (by simpa using hl)]
  simp
/-- a small comprehension, item by item -/
@[simp] theorem lcLoop_nil (f : D → Rho → Option Rho) (tt : M Bool) (me : M R) (own : List Nat) (acc : List D) (ρ : Rho) : lcLoop f tt me own [] acc ρ = .ok acc ρ := (rfl)
def lcAdd (own : List Nat) (acc : List D) : D → M (List D) := fun y ρ => if acc.length < sizeLine then .ok (acc ++ [y]) (wipeR ρ own) else .bad
def lcFst (o : Option Rho) (m : M (List D)) : Out (List D) := match o with
  | some ρ => m ρ
  | none => .bad
@[simp] theorem lcFst_some (ρ : Rho) (m : M (List D)) : lcFst (some ρ) m = m ρ := (rfl)
theorem seqO_t {n : Nat} {fs : List D → M Unit} {ds : List D} (h : ds.length = n) : (match (PyData.tuple ds) with
  | .tuple ds => if ds.length = n then fs ds else M.bad
  | .list ds => if ds.length = n then fs ds else .bad
  | _ => .bad) = fs ds := if_pos h
def seqO (n : Nat) (fs : List D → M Unit) : D → M Unit
  | .tuple ds => if ds.length = n then fs ds else .bad
  | .list ds => if ds.length = n then fs ds else .bad
  | _ => .bad
@[simp] theorem asgSeq_ap (n : Nat) (fs : List D → M Unit) (r : R) (ρ : Rho) : asgSeq n fs r ρ = (frz r ρ).bnd (seqO n fs) := (rfl)
@[simp] theorem seqO_tup (n : Nat) (fs : List D → M Unit) (ds : List D) (ρ : Rho) : seqO n fs (.tuple ds) ρ = if ds.length = n then fs ds ρ else .bad := by
  show (if ds.length = n then fs ds else M.bad) ρ = _
  split <;> rfl
@[simp] theorem seqO_lst (n : Nat) (fs : List D → M Unit) (ds : List D) (ρ : Rho) : seqO n fs (.list ds) ρ = if ds.length = n then fs ds ρ else .bad := by
  show (if ds.length = n then fs ds else M.bad) ρ = _
  split <;> rfl
@[simp] theorem asgNil_ap (ρ : Rho) : asgNil [] ρ = .ok () ρ := (rfl)
@[simp] theorem asgCons_ap (f : R → M Unit) (fs : List D → M Unit) (d : D) (ds : List D) (ρ : Rho) : asgCons f fs (d :: ds) ρ = (f (.tmp (.val d)) ρ).bnd fun _ => fs ds := (rfl)
@[simp] theorem fAdd_tt (i j : List D) (h : i.length + j.length ≤ 16777216) : fAdd (.tuple i) (.tuple j) = some (.val (.tuple (i ++ j))) := if_pos (sizeLine_big h)
@[simp] theorem fAdd_ss (i j : Str) (h : i.length + j.length ≤ 16777216) : fAdd (.str i) (.str j) = some (.val (.str (i ++ j))) := if_pos (sizeLine_big h)
@[simp] theorem fSl_t (xs : List D) (lo hi) : fSl (.tuple xs) lo hi = some (.val (.tuple ((xs.drop (HT.sIx xs.length 0 lo)).take (HT.sIx xs.length xs.length hi - HT.sIx xs.length 0 lo)))) := (rfl)
@[simp] theorem fIx_s (z : Str) (i : Int) (h : z.length ≤ 16777216) : fIx (.str z) (.int i) = (atI z.cps.toList i).map fun c => .val (.str ⟨#[c]⟩) := if_pos (sizeLine_big h)
@[simp] theorem fTuple_l (ds : List D) : fTuple [.list ds] = some (.val (.tuple ds)) := (rfl)
@[simp] theorem fTuple_t (ds : List D) : fTuple [.tuple ds] = some (.val (.tuple ds)) := (rfl)
@[simp] theorem fList_l (ds : List D) : fList [.list ds] = some (.lst none ds) := (rfl)
@[simp] theorem fList_t (ds : List D) : fList [.tuple ds] = some (.lst none ds) := (rfl)
@[simp] theorem fInt1_i (i : Int) : fInt1 [.int i] = some (.val (.int i)) := (rfl)
@[simp] theorem fInt1_b (i : Bool) : fInt1 [.bool i] = some (.val (.int (if i then 1 else 0))) := (rfl)
theorem asBools_map (bs : List Bool) : asBools (bs.map .bool) = some bs := by
  induction bs with
  | nil => rfl
  | cons b bs ih => simp [asBools, ih]
@[simp] theorem asBools_nil : asBools [] = some [] := (rfl)
@[simp] theorem asBools_cons (b : Bool) (ds : List D) : asBools (.bool b :: ds) = (asBools ds).map (b :: ·) := (rfl)
@[simp] theorem asBools_fun (f : D → Bool) (ds : List D) : asBools (ds.map fun d => .bool (f d)) = some (ds.map f) := by
  have := asBools_map (ds.map f)
  rwa [List.map_map] at this
@[simp] theorem asBools_comp (f : D → Bool) (ds : List D) : asBools (ds.map (PyData.bool ∘ f)) = some (ds.map f) := asBools_fun f ds
@[simp] theorem fAll_l (ds : List D) : fAll [.list ds] = (asBools ds).map fun bs => .val (.bool (bs.all id)) := (rfl)
@[simp] theorem fAny_l (ds : List D) : fAny [.list ds] = (asBools ds).map fun bs => .val (.bool (bs.any id)) := (rfl)
@[simp] theorem dispIx_ap (ks : List Str) (ms : List (M R)) (mk : M R) (ρ : Rho) : dispIx ks ms mk ρ = (argsM ms ρ).bnd fun rs => M.bind (frzs rs) fun ds => M.bind mk fun rk => op1 (fAssoc ks ds) rk := (rfl)
@[simp] theorem argsM_nil (ρ : Rho) : argsM [] ρ = .ok [] ρ := (rfl)
@[simp] theorem argsM_cons (m : M R) (ms : List (M R)) (ρ : Rho) : argsM (m :: ms) ρ = (m ρ).bnd fun r => M.bind (argsM ms) fun rs => .ret (r :: rs) := (rfl)
@[simp] theorem fAssoc_str (ks : List Str) (ds : List D) (k : Str) : fAssoc ks ds (.str k) = (assocS k (ks.zip ds) none).map .val := (rfl)
end
end DL

set_option Elab.async false
set_option maxRecDepth 100000
set_option maxHeartbeats 4000000
namespace DL
open PySem L2
/-! ### turnings -/
structure M4 where
  a : Int
  b : Int
  c : Int
  d : Int
deriving DecidableEq
namespace M4
def D (m : M4) : PyData := .tuple [.int m.a, .int m.b, .int m.c, .int m.d]
def mul (x y : M4) : M4 := ⟨x.a * y.a + x.b * y.c, x.a * y.b + x.b * y.d, x.c * y.a + x.d * y.c, x.c * y.b + x.d * y.d⟩
def neg (m : M4) : M4 := ⟨-m.a, -m.b, -m.c, -m.d⟩
def down (m : M4) : Prop := m.c < 0 ∨ (m.c = 0 ∧ m.d < 0)
instance (m : M4) : Decidable m.down := by unfold down; infer_instance
def nrm (m : M4) : M4 := if m.down then m.neg else m
def tm (x y : M4) : M4 := (x.mul y).nrm
def lt (m : M4) (k : Nat) : Prop := m.a.natAbs < 2 ^ k ∧ m.b.natAbs < 2 ^ k ∧ m.c.natAbs < 2 ^ k ∧ m.d.natAbs < 2 ^ k
def one : M4 := ⟨1, 0, 0, 1⟩
def S : M4 := ⟨0, -1, 1, 0⟩
def R : M4 := ⟨0, -1, 1, -1⟩
def Q : M4 := ⟨1, -1, 1, 0⟩
theorem neg_lt {m : M4} {k : Nat} (h : m.lt k) : m.neg.lt k := by
  unfold lt neg at *
  simpa using h
theorem nrm_lt {m : M4} {k : Nat} (h : m.lt k) : m.nrm.lt k := by
  unfold nrm
  split
  · exact neg_lt h
  · exact h
theorem pw_mul {a b : Int} {j k : Nat} (ha : a.natAbs < 2 ^ j) (hb : b.natAbs < 2 ^ k) : (a * b).natAbs < 2 ^ (j + k) := by
  rw [Int.natAbs_mul, Nat.pow_add]
  exact Nat.mul_lt_mul'' ha hb
theorem pw_add {a b : Int} {k : Nat} (ha : a.natAbs < 2 ^ k) (hb : b.natAbs < 2 ^ k) : (a + b).natAbs < 2 ^ (k + 1) := by
  have := Int.natAbs_add_le a b
  rw [Nat.pow_succ]
  omega
theorem mul_lt {x y : M4} {j k : Nat} (hx : x.lt j) (hy : y.lt k) : (x.mul y).lt (j + k + 1) := by
  obtain ⟨a1, a2, a3, a4⟩ := hx
  obtain ⟨b1, b2, b3, b4⟩ := hy
  exact ⟨pw_add (pw_mul a1 b1) (pw_mul a2 b3), pw_add (pw_mul a1 b2) (pw_mul a2 b4), pw_add (pw_mul a3 b1) (pw_mul a4 b3), pw_add (pw_mul a3 b2) (pw_mul a4 b4)⟩
theorem tm_lt {x y : M4} {j k : Nat} (hx : x.lt j) (hy : y.lt k) : (x.tm y).lt (j + k + 1) := nrm_lt (mul_lt hx hy)
theorem lt_mono {m : M4} {j k : Nat} (h : m.lt j) (hk : j ≤ k) : m.lt k := by
  have e : 2 ^ j ≤ 2 ^ k := Nat.pow_le_pow_right (by decide) hk
  obtain ⟨h1, h2, h3, h4⟩ := h
  exact ⟨by omega, by omega, by omega, by omega⟩
end M4
def g_times : M Fl := seqM (asgS (asgSeq 4 (asgCons (asgR 3) (asgCons (asgR 4) (asgCons (asgR 5) (asgCons (asgR 6) (asgNil)))))) (getM 0))
  (seqM (asgS (asgSeq 4 (asgCons (asgR 7) (asgCons (asgR 8) (asgCons (asgR 9) (asgCons (asgR 10) (asgNil)))))) (getM 1))
  (seqM (setS 2 (tupM (argC (bin fAdd (bin fMulI (getM 3) (getM 7)) (bin fMulI (getM 4) (getM 9))) (argC (bin fAdd (bin fMulI (getM 3) (getM 8)) (bin fMulI (getM 4) (getM 10))) (argC (bin fAdd (bin fMulI (getM 5) (getM 7)) (bin fMulI (getM 6) (getM 9))) (argC (bin fAdd (bin fMulI (getM 5) (getM 8)) (bin fMulI (getM 6) (getM 10))) (argN)))))))
  (seqM (ifS (DL.orM (tcmp fLt (bin fIx (getM 2) (cst (.int 2))) (cst (.int 0))) (DL.andM (tcmp fEq (bin fIx (getM 2) (cst (.int 2))) (cst (.int 0))) (tcmp fLt (bin fIx (getM 2) (cst (.int 3))) (cst (.int 0))))) (retS (callB fTuple (argC (lcM (put1 11) (M.ret true) (bin fSub (cst (.int 0)) (getM 11)) [11] (itA (getM 2))) (argN)))) (nilS))
  (retS (getM 2)))))
def f_times : List D → FO := runF 10 g_times
theorem set_back {l : Rho} {i : Nat} {x : Option T} (h : l[i]? = some none) : (l.set i x).set i none = l := by
  have hlen := (List.getElem?_eq_some_iff.mp h).1
  rw [List.set_set]
  apply List.ext_getElem?
  intro j
  by_cases hi : j = i
  · subst hi
    have h' := (List.getElem?_eq_some_iff.mp h).2
    simp [hlen, h']
  · rw [List.getElem?_set_ne (fun z => hi z.symm)]
theorem lc_neg {l : Rho} {i : Nat} {ns : List Int} (h : l[i]? = some none) (hl : ns.length ≤ 1000000) : lcLoop (put1 i) (M.ret true) (bin fSub (cst (.int 0)) (getM i)) [i] (ns.map .int) [] l = .ok ((ns.map fun n => .int (-n))) l := by
  have hlen : i < l.length := (List.getElem?_eq_some_iff.mp h).1
  have e := lcLoop_map (ρ := l) (f := put1 i) (me := bin fSub (cst (.int 0)) (getM i)) (own := [i]) (fun d => match d with | .int i => .int (0 - i) | d => d) (ds := ns.map .int) (fun d hd => by
    obtain ⟨n, _, rfl⟩ := List.mem_map.mp hd
    refine ⟨l.set i (some (.val (.int n))), .tmp (.val (.int (0 - n))), l.set i (some (.val (.int n))), l.set i (some (.val (.int n))), ?_, ?_, ?_, ?_⟩
    · simp [h]
    · simp [hlen]
    · simp
    · simp only [wipeR_cons, wipeR_nil]
      exact set_back h) (by simp; omega)
  rw [e, List.map_map]
  congr 1
  apply List.map_congr_left
  intro n _
  simp
theorem lc_neg4 {l : Rho} {i : Nat} {a b c d : Int} (h : l[i]? = some none) : lcLoop (put1 i) (M.ret true) (bin fSub (cst (.int 0)) (getM i)) [i] [.int a, .int b, .int c, .int d] [] l = .ok [.int (-a), .int (-b), .int (-c), .int (-d)] l :=
  lc_neg (ns := [a, b, c, d]) h (by simp)
theorem times_ok {x y : M4} {j k : Nat} (hx : x.lt j) (hy : y.lt k) (hjk : j + k < 1000000) : f_times [x.D, y.D] = .ok (.val (x.tm y).D) := by
  obtain ⟨x1, x2, x3, x4⟩ := x
  obtain ⟨y1, y2, y3, y4⟩ := y
  obtain ⟨a1, a2, a3, a4⟩ := hx
  obtain ⟨b1, b2, b3, b4⟩ := hy
  dsimp only at *
  have m1 := bMul_of j k a1 b1 hjk
  have m2 := bMul_of j k a2 b3 hjk
  have m3 := bMul_of j k a1 b2 hjk
  have m4 := bMul_of j k a2 b4 hjk
  have m5 := bMul_of j k a3 b1 hjk
  have m6 := bMul_of j k a4 b3 hjk
  have m7 := bMul_of j k a3 b2 hjk
  have m8 := bMul_of j k a4 b4 hjk
  unfold f_times g_times M4.D
  rw [run_eq]
  generalize hp : (⟨x1, x2, x3, x4⟩ : M4).mul ⟨y1, y2, y3, y4⟩ = p
  obtain ⟨p1, p2, p3, p4⟩ := p
  simp only [M4.mul, M4.mk.injEq] at hp
  obtain ⟨e1, e2, e3, e4⟩ := hp
  have et : (⟨x1, x2, x3, x4⟩ : M4).tm ⟨y1, y2, y3, y4⟩ = (⟨p1, p2, p3, p4⟩ : M4).nrm := by simp [M4.tm, M4.mul, e1, e2, e3, e4]
  rw [et]
  by_cases h3 : p3 < 0
  · have hd : (⟨p1, p2, p3, p4⟩ : M4).nrm = ⟨-p1, -p2, -p3, -p4⟩ := if_pos (.inl h3)
    rw [hd]
    simp [m1, m2, m3, m4, m5, m6, m7, m8, e1, e2, e3, e4, h3, lc_neg4]
  · by_cases h0 : p3 = 0
    · by_cases h4 : p4 < 0
      · have hd : (⟨p1, p2, p3, p4⟩ : M4).nrm = ⟨-p1, -p2, -p3, -p4⟩ := if_pos (.inr ⟨h0, h4⟩)
        rw [hd]
        simp [m1, m2, m3, m4, m5, m6, m7, m8, e1, e2, e3, e4, h3, lc_neg4, h0, h4]
      · have hd : (⟨p1, p2, p3, p4⟩ : M4).nrm = ⟨p1, p2, p3, p4⟩ := if_neg (fun z => z.elim h3 (fun z => h4 z.2))
        rw [hd]
        simp [m1, m2, m3, m4, m5, m6, m7, m8, e1, e2, e3, e4, h3, h0, h4]
    · have hd : (⟨p1, p2, p3, p4⟩ : M4).nrm = ⟨p1, p2, p3, p4⟩ := if_neg (fun z => z.elim h3 (fun z => h0 z.1))
      rw [hd]
      simp [m1, m2, m3, m4, m5, m6, m7, m8, e1, e2, e3, e4, h3, h0]
/-! ### letters, words -/
def letM (c : Nat) : M4 := if c = 115 then M4.S else if c = 114 then M4.R else M4.Q
def isLet (c : Nat) : Prop := c = 115 ∨ c = 114 ∨ c = 113
abbrev mkS (l : List Nat) : Str := ⟨l.toArray⟩
def trn (l : List Nat) : M4 := l.foldl (fun m c => m.tm (letM c)) M4.one
theorem M4.tm_let {m : M4} {k : Nat} (h : m.lt k) (c : Nat) : (m.tm (letM c)).lt (k + 1) := by
  obtain ⟨a1, a2, a3, a4⟩ := h
  refine M4.nrm_lt ?_
  have p : ∀ {x : Int}, x.natAbs < 2 ^ k → x.natAbs < 2 ^ (k + 1) := fun h => by rw [Nat.pow_succ]; omega
  have q : ∀ {x y z : Int}, x.natAbs < 2 ^ k → y.natAbs < 2 ^ k → z.natAbs ≤ x.natAbs + y.natAbs → z.natAbs < 2 ^ (k + 1) := fun h1 h2 h3 => by rw [Nat.pow_succ]; omega
  unfold letM
  split
  · exact ⟨q a1 a2 (by simp only [M4.mul, M4.S]; omega), q a1 a2 (by simp only [M4.mul, M4.S]; omega), q a3 a4 (by simp only [M4.mul, M4.S]; omega), q a3 a4 (by simp only [M4.mul, M4.S]; omega)⟩
  · split
    · exact ⟨q a1 a2 (by simp only [M4.mul, M4.R]; omega), q a1 a2 (by simp only [M4.mul, M4.R]; omega), q a3 a4 (by simp only [M4.mul, M4.R]; omega), q a3 a4 (by simp only [M4.mul, M4.R]; omega)⟩
    · exact ⟨q a1 a2 (by simp only [M4.mul, M4.Q]; omega), q a1 a2 (by simp only [M4.mul, M4.Q]; omega), q a3 a4 (by simp only [M4.mul, M4.Q]; omega), q a3 a4 (by simp only [M4.mul, M4.Q]; omega)⟩
theorem trn_snoc (l : List Nat) (c : Nat) : trn (l ++ [c]) = (trn l).tm (letM c) := by simp [trn]
theorem foldl_lt : ∀ (l : List Nat) (m : M4) (k : Nat), m.lt k → (l.foldl (fun m c => m.tm (letM c)) m).lt (k + l.length)
  | [], m, k, h => h
  | c :: l, m, k, h => by
    have := foldl_lt l (m.tm (letM c)) (k + 1) (M4.tm_let h c)
    rw [List.length_cons, show k + (l.length + 1) = k + 1 + l.length by omega]
    exact this
theorem one_lt : M4.one.lt 1 := by unfold M4.lt M4.one; decide
theorem trn_lt (l : List Nat) : (trn l).lt (l.length + 1) := by
  have := foldl_lt l M4.one 1 one_lt
  rw [Nat.add_comm] at this
  exact this
def dispL (i : Nat) : M R := dispIx ["s", "r", "q"] [tupM (argC (cst (.int 0)) (argC (un fNeg (cst (.int 1))) (argC (cst (.int 1)) (argC (cst (.int 0)) (argN))))), tupM (argC (cst (.int 0)) (argC (un fNeg (cst (.int 1))) (argC (cst (.int 1)) (argC (un fNeg (cst (.int 1))) (argN))))), tupM (argC (cst (.int 1)) (argC (un fNeg (cst (.int 1))) (argC (cst (.int 1)) (argC (cst (.int 0)) (argN)))))] (getM i)
theorem assoc_let {c : Nat} (h : isLet c) : assocS (⟨#[c]⟩ : Str) [("s", M4.S.D), ("r", M4.R.D), ("q", M4.Q.D)] none = some (letM c).D := by
  have e1 : (("s" : Str) = ⟨#[115]⟩) := by decide
  have e2 : (("r" : Str) = ⟨#[114]⟩) := by decide
  have e3 : (("q" : Str) = ⟨#[113]⟩) := by decide
  rcases h with rfl | rfl | rfl <;> simp [assocS, e1, e2, e3, letM]
theorem dispL_ok {ρ : Rho} {i c : Nat} (h : ρ[i]? = some (some (.val (.str ⟨#[c]⟩)))) (hc : isLet c) : dispL i ρ = .ok (.tmp (.val (letM c).D)) ρ := by
  have e := assoc_let hc
  simp only [M4.D, M4.S, M4.R, M4.Q] at e
  unfold dispL
  simp [h, e, M4.D]
def g_turning : M Fl := seqM (setS 1 (tupM (argC (cst (.int 1)) (argC (cst (.int 0)) (argC (cst (.int 0)) (argC (cst (.int 1)) (argN)))))))
  (seqM (forS (asgR 2) (itA (getM 0)) (setS 1 (callF f_times (argC (getM 1) (argC (dispIx ["s", "r", "q"] [tupM (argC (cst (.int 0)) (argC (un fNeg (cst (.int 1))) (argC (cst (.int 1)) (argC (cst (.int 0)) (argN))))), tupM (argC (cst (.int 0)) (argC (un fNeg (cst (.int 1))) (argC (cst (.int 1)) (argC (un fNeg (cst (.int 1))) (argN))))), tupM (argC (cst (.int 1)) (argC (un fNeg (cst (.int 1))) (argC (cst (.int 1)) (argC (cst (.int 0)) (argN)))))] (getM 2)) (argN))))))
  (retS (getM 1)))
def f_turning : List D → FO := runF 2 g_turning
theorem trn_loop (z : Option T) : ∀ (l : List Nat) (m : M4) (k : Nat) (x : Option T), (∀ c ∈ l, isLet c) → m.lt k → k + l.length < 900000 → ∃ x', forM (asgR 2) (setS 1 (callF f_times (argC (getM 1) (argC (dispL 2) (argN))))) (l.map fun c => .str ⟨#[c]⟩) [z, some (.val m.D), x] =
    .ok .nx [z, some (.val (l.foldl (fun m c => m.tm (letM c)) m).D), x']
  | [], m, k, x, _, _, _ => ⟨x, rfl⟩
  | c :: l, m, k, x, hl, hm, hk => by
    have hc := hl c List.mem_cons_self
    have lc : (letM c).lt 1 := by unfold letM M4.lt; split <;> (try split) <;> decide
    have et := times_ok hm lc (by simp at hk; omega)
    obtain ⟨x', e⟩ := trn_loop z l (m.tm (letM c)) (k + 1) (some (.val (.str ⟨#[c]⟩))) (fun c h => hl c (List.mem_cons_of_mem _ h)) (M4.tm_let hm c) (by simp at hk; omega)
    refine ⟨x', ?_⟩
    rw [List.foldl_cons, ← e, List.map_cons, forM_cons]
    have ed := dispL_ok (ρ := [z, some (.val m.D), some (.val (.str ⟨#[c]⟩))]) (i := 2) rfl hc
    have sc : scalD (m.tm (letM c)).D = false := rfl
    simp [ed, et, sc]
theorem turning_ok {l : List Nat} (hl : ∀ c ∈ l, isLet c) (hn : l.length < 800000) : f_turning [.str (mkS l)] = .ok (.val (trn l).D) := by
  obtain ⟨x', e⟩ := trn_loop (some (.val (.str (mkS l)))) l M4.one 1 none hl one_lt (by omega)
  unfold f_turning g_turning
  rw [run_eq]
  have ec : chars (mkS l) = l.map fun c => .str ⟨#[c]⟩ := by simp [chars]
  simp only [M4.D, M4.one] at e
  unfold dispL at e
  simp [ec, e, trn, M4.D, M4.one]
end DL

set_option Elab.async false
set_option maxRecDepth 100000
set_option maxHeartbeats 4000000
namespace DL
open PySem L2
/-! ### drawn words -/
def g_word : M Fl := seqM (setS 2 (cst (.str "")))
  (seqM (forS (asgR 3) (itR1 (argC (getM 0) (argN))) (ifS (tcmp fEq (bin fMod (bin fAdd (bin fIx (getM 1) (cst (.int 0))) (getM 3)) (cst (.int 2))) (cst (.int 0))) (setS 2 (bin fAdd (getM 2) (cst (.str "s")))) (setS 2 (bin fAdd (getM 2) (bin fIx (cst (.str "rq")) (bin fMod (bin fIx (getM 1) (bin fAdd (getM 3) (cst (.int 1)))) (cst (.int 2))))))))
  (retS (getM 2)))
def f_word : List D → FO := runF 2 g_word
theorem str_s : ("s" : Str) = mkS [115] := by decide
theorem str_rq : ("rq" : Str) = mkS [114, 113] := by decide
theorem str_e : ("" : Str) = mkS [] := by decide
theorem mkS_app (l k : List Nat) : mkS l ++ mkS k = mkS (l ++ k) := by
  show (⟨l.toArray ++ k.toArray⟩ : Str) = _
  simp
@[simp] theorem mkS_len (l : List Nat) : (mkS l).length = l.length := by
  show l.toArray.size = _
  simp
theorem word_step {ds : List Int} {n : Option T} {k : Nat} {l : List Nat} {x : Option T} (hk : k + 1 < ds.length) (hl : l.length < 16000000) :
    ∃ c, isLet c ∧ (c = 115 ↔ (ds.getD 0 0 + k) % 2 = 0) ∧ (M.bind (asgR 3 (.tmp (.val (.int k)))) fun _ => ifS (tcmp fEq (bin fMod (bin fAdd (bin fIx (getM 1) (cst (.int 0))) (getM 3)) (cst (.int 2))) (cst (.int 0))) (setS 2 (bin fAdd (getM 2) (cst (.str "s")))) (setS 2 (bin fAdd (getM 2) (bin fIx (cst (.str "rq")) (bin fMod (bin fIx (getM 1) (bin fAdd (getM 3) (cst (.int 1)))) (cst (.int 2))))))) [n, some (.val (.list (ds.map .int))), some (.val (.str (mkS l))), x] =
      .ok .nx [n, some (.val (.list (ds.map .int))), some (.val (.str (mkS (l ++ [c])))), some (.val (.int k))] := by
  have a0 : atI (ds.map PyData.int) 0 = some (.int (ds.getD 0 0)) := atI_n (k := 0) (by simp [show 0 < ds.length by omega])
  have a1 : atI (ds.map PyData.int) ((k : Int) + 1) = some (.int (ds.getD (k + 1) 0)) := by
    have := atI_n (l := ds.map PyData.int) (k := k + 1) (a := .int (ds.getD (k + 1) 0)) (by simp [hk])
    simpa using this
  generalize ds.getD 0 0 = d0 at a0 ⊢
  generalize ds.getD (k + 1) 0 = d1 at a1 ⊢
  have f0 : (d0 + k).fmod 2 = (d0 + k) % 2 := Int.fmod_eq_emod_of_nonneg _ (by decide)
  have f1 : d1.fmod 2 = d1 % 2 := Int.fmod_eq_emod_of_nonneg _ (by decide)
  by_cases h : (d0 + k) % 2 = 0
  · refine ⟨115, .inl rfl, by simp [h], ?_⟩
    simp [a0, f0, h, str_s, hl, mkS_app, show l.length + 1 ≤ 16777216 by omega]
  · by_cases h1 : d1 % 2 = 0
    · refine ⟨114, .inr (.inl rfl), by simp [h], ?_⟩
      simp [a0, a1, f0, f1, h, h1, str_rq, mkS_app, show l.length + 1 ≤ 16777216 by omega]
    · have h2 : d1 % 2 = 1 := by omega
      refine ⟨113, .inr (.inr rfl), by simp [h], ?_⟩
      simp [a0, a1, f0, f1, h, h2, str_rq, mkS_app, show l.length + 1 ≤ 16777216 by omega]
/-- letters by turns -/
def alt (d0 : Int) (l : List Nat) : Prop := ∀ (i : Nat) (c : Nat), l[i]? = some c → isLet c ∧ (c = 115 ↔ (d0 + (i : Int)) % 2 = 0)
theorem word_loop {ds : List Int} {n : Option T} : ∀ (m k : Nat) (l : List Nat) (x : Option T), k + m < ds.length → l.length = k → ds.length < 15000000 → alt (ds.getD 0 0) l →
    ∃ l' x', l'.length = k + m ∧ alt (ds.getD 0 0) l' ∧ forM (asgR 3) (ifS (tcmp fEq (bin fMod (bin fAdd (bin fIx (getM 1) (cst (.int 0))) (getM 3)) (cst (.int 2))) (cst (.int 0))) (setS 2 (bin fAdd (getM 2) (cst (.str "s")))) (setS 2 (bin fAdd (getM 2) (bin fIx (cst (.str "rq")) (bin fMod (bin fIx (getM 1) (bin fAdd (getM 3) (cst (.int 1)))) (cst (.int 2))))))) (irange (k : Int) m)
      [n, some (.val (.list (ds.map .int))), some (.val (.str (mkS l))), x] = .ok .nx [n, some (.val (.list (ds.map .int))), some (.val (.str (mkS l'))), x']
  | 0, k, l, x, _, hl, _, ha => ⟨l, x, by simpa using hl, ha, rfl⟩
  | m + 1, k, l, x, hk, hl, hd, ha => by
    obtain ⟨c, c1, c2, e⟩ := word_step (n := n) (x := x) (ds := ds) (k := k) (l := l) (by omega) (by omega)
    have ha' : alt (ds.getD 0 0) (l ++ [c]) := fun i y h => by
      by_cases hi : i < l.length
      · rw [List.getElem?_append_left hi] at h
        exact ha i y h
      · rw [List.getElem?_append_right (by omega)] at h
        have e1 : i - l.length = 0 := by
          have := (List.getElem?_eq_some_iff.mp h).1
          simp at this
          omega
        rw [e1] at h
        cases h
        have e2 : i = k := by omega
        subst e2
        exact ⟨c1, c2⟩
    obtain ⟨l', x', q1, q2, q3⟩ := word_loop m (k + 1) (l ++ [c]) (some (.val (.int k))) (by omega) (by simp [hl]) hd ha'
    refine ⟨l', x', by rw [q1]; omega, q2, ?_⟩
    rw [irange_cons, forM_cons, e, bnd_ok, loop_nx, ← q3]
    congr 1
theorem word_ok {ds : List Int} {n : Nat} (hn : n < ds.length) (hd : ds.length < 15000000) : ∃ l : List Nat, l.length = n ∧ alt (ds.getD 0 0) l ∧ f_word [.int n, .list (ds.map .int)] = .ok (.val (.str (mkS l))) := by
  obtain ⟨l', x', q1, q2, q3⟩ := word_loop (n := some (.val (.int n))) n 0 [] none (by omega) rfl hd (fun i c h => by simp at h)
  refine ⟨l', by omega, q2, ?_⟩
  unfold f_word g_word
  rw [run_eq]
  have hr : n ≤ 1000000000 := by omega
  rw [← str_e] at q3
  simp only [Int.natCast_zero] at q3
  simp [rng_nat _ hr, q3]
theorem alt.let_ {d0 : Int} {l : List Nat} (h : alt d0 l) : ∀ c ∈ l, isLet c := fun c hc => by
  obtain ⟨i, hi, rfl⟩ := List.mem_iff_getElem.mp hc
  exact (h i _ (by simp [hi])).1
/-! ### whole numbers -/
def g_whole : M Fl := retS (vAnd (isi isInt (getM 0)) (notV (isi isBool (getM 0))))
def f_whole : List D → FO := runF 0 g_whole
def whole (d : D) : Bool := isInt d && !isBool d
theorem whole_ok (d : D) : f_whole [d] = .ok (.val (.bool (whole d))) := by
  unfold f_whole g_whole whole
  rw [run_eq]
  cases h : isInt d <;> simp [h]
theorem whole_int {d : D} (h : whole d = true) : ∃ i, d = .int i := by
  cases d with
  | int i => exact ⟨i, rfl⟩
  | _ => simp [whole, isInt, isBool] at h
theorem lc_whole {l : Rho} {i : Nat} {ds : List D} (h : l[i]? = some none) (hl : ds.length ≤ 1000000) : lcLoop (put1 i) (M.ret true) (callF f_whole (argC (getM i) (argN))) [i] ds [] l = .ok (ds.map fun d => .bool (whole d)) l := by
  have hlen : i < l.length := (List.getElem?_eq_some_iff.mp h).1
  rw [lcLoop_map (ρ := l) (fun d => .bool (whole d)) (fun d _ => by
    refine ⟨l.set i (some (.val d)), .tmp (.val (.bool (whole d))), l.set i (some (.val d)), l.set i (some (.val d)), ?_, ?_, ?_, ?_⟩
    · simp [h]
    · simp [hlen, whole_ok]
    · simp
    · simp only [wipeR_cons, wipeR_nil]
      exact set_back h) (by omega)]
theorem lc_whole4 {l : Rho} {i : Nat} {a b c d : Int} (h : l[i]? = some none) : lcLoop (put1 i) (M.ret true) (callF f_whole (argC (getM i) (argN))) [i] [.int a, .int b, .int c, .int d] [] l = .ok [.bool true, .bool true, .bool true, .bool true] l :=
  lc_whole (ds := [.int a, .int b, .int c, .int d]) h (by simp)
/-- a row's digit -/
theorem at_row {r : List Int} {k : Nat} (h : k < r.length) : atI (r.map PyData.int) (k : Int) = some (.int (r.getD k 0)) := atI_n (by simp [h])
theorem okRow.at_ {b : Int} {r : List Int} (h : okRow b r) {k : Nat} (hk : k < r.length) : 0 ≤ r.getD k 0 ∧ r.getD k 0 < b := by
  have e : r.getD k 0 = r[k] := by simp [hk]
  rw [e]
  exact h _ (List.getElem_mem hk)
end DL

set_option Elab.async false
set_option maxRecDepth 100000
set_option maxHeartbeats 4000000
namespace DL
open PySem PySem.Spec PyProof.Rows L2
/-! ### exceptions -/
section
variable {X : Cx} {W : WX}
def raiseM (x : Str) : M Fl := fun ρ => .exc ⟨x, []⟩ ρ
/-- what the written part says of a class that is raised -/
structure RaC (K : PySem.W.Frag) (mg : Str → Option Value) (x : Str) (C : Addr) : Prop where
  q : PySem.W.excIn K C He.veBase "ValueError.__new__" = true
  g : mg x = some (.ref C)
  k : PySem.W.keepIn K (.ref C) = true
  b : PySem.W.subIn K (.ref C) (.type "BaseException") = some true
  t : PySem.W.typeIn K (.ref C) = some (.type "type")
theorem js_raise {x m : Str} {C : Addr} {j : Nat} {p p2 pos pos' : Pos} (hc : X.calm = true) (tk : Takes X W) (c : RaC X.K X.mg x C) (hg : Gl X x) (hdb : (x == ("__debug__" : Str)) = false) :
    JS X W (.Raise (some (.Call (.Name x p) [.Constant (.str m) j p2] [] pos)) none pos') (raiseM x) := (ps_raise hc tk (pmk_own PySem.F.excBase_ValueError c.q c.g c.k (raises_own c.b c.t) hg hdb)).imp fun D σ H h => by
  obtain ⟨P, A, O, ρ, e, h⟩ := h
  exact h (.ref C) none σ H O e ⟨c.g, rfl⟩ (Step.refl _ _)
/-! ### what stands in a suite -/
abbrev Pz := L2.St → Prop
abbrev JEp (p : Pz) (X : Cx) (W : WX) (e : Expr) (m : M R) : Prop := PE X e (fun σ H Q => p σ ∧ tR X.K X.mg W m σ H Q)
abbrev JBp (p : Pz) (X : Cx) (W : WX) (e : Expr) (m : M Bool) : Prop := PT X e (fun σ H Q => p σ ∧ tBo X.K X.mg W m σ H Q)
abbrev JWp (p : Pz) (X : Cx) (W : WX) (e : Expr) (m : M Bool) : Prop := PW X e (fun σ H Q => p σ ∧ tBo X.K X.mg W m σ H Q)
def nxp (p : Pz) (D : Ends) : Ends := { D with nx := fun σ H => p σ → D.nx σ H }
abbrev JSp (p : Pz) (X : Cx) (W : WX) (st : Stmt) (m : M Fl) : Prop := PS X st (fun D σ H => p σ ∧ tS X.K X.mg W m (nxp p D) σ H)
abbrev JSps (p : Pz) (X : Cx) (W : WX) (st : List Stmt) (m : M Fl) : Prop := PSs X st (fun D σ H => p σ ∧ tS X.K X.mg W m (nxp p D) σ H)
variable {p : Pz} {a b e : Expr} {rest : List Expr} {pos : Pos} {ma mb : M R} {ta tb : M Bool} {st : Stmt} {sts : List Stmt} {m1 m2 : M Fl}
theorem jp_of (h : JE X W e ma) : JEp p X W e ma := h.imp fun σ H Q z => z.2
theorem jbp_of (h : JB X W e ta) : JBp p X W e ta := h.imp fun σ H Q z => z.2
theorem jp_and (ha : JEp p X W a ma) (hb : JEp p X W (.BoolOp .And (b :: rest) pos) mb) : JEp p X W (.BoolOp .And (a :: b :: rest) pos) (vAnd ma mb) := (pe_and ha hb).imp fun σ H Q h => by
  refine ⟨h.1, tR.mono' (val_B h.2) fun v H1 ⟨c, e, q⟩ => ⟨c, e, ?_⟩⟩
  cases c with
  | true => exact ⟨h.1, q⟩
  | false => exact ret_R q (.bl false)
theorem jp_or (ha : JEp p X W a ma) (hb : JEp p X W (.BoolOp .Or (b :: rest) pos) mb) : JEp p X W (.BoolOp .Or (a :: b :: rest) pos) (vOr ma mb) := (pe_or ha hb).imp fun σ H Q h => by
  refine ⟨h.1, tR.mono' (val_B h.2) fun v H1 ⟨c, e, q⟩ => ⟨c, e, ?_⟩⟩
  cases c with
  | true => exact ret_R q (.bl true)
  | false => exact ⟨h.1, q⟩
theorem jp_one {op} (h : JEp p X W a ma) : JEp p X W (.BoolOp op [a] pos) ma := pe_one h
theorem jp_not (ha : JEp p X W a ma) : JEp p X W (.UnaryOp .Not a pos) (notV ma) := (pe_not ha).imp fun σ H Q h => ⟨h.1, tR.mono' (val_B h.2) fun v H1 ⟨c, e, q⟩ => ⟨c, e, ret_R q (.bl _)⟩⟩
theorem jbp_val (ha : JEp p X W a ma) (he : ∀ whole, isTrue a X.env whole = (do let v ← whole; standAt a.pos; holding [v] (truthy v))) : JBp p X W a (M.bind ma asB) := (pt_val ha he).imp fun σ H Q h => by
  obtain ⟨hp, P, A, O, ρ, e, h⟩ := h
  refine ⟨hp, P, A, O, ρ, e, (Aft.bind (rl := relR X.K σ) h).mono ?_⟩
  rintro x H1 ⟨O1, ρ1, ra, F, e1, r1, s1, h1⟩
  exact asB_ok e1.less r1 (h1.step s1.less)
theorem jbp_not (ha : JBp p X W a ta) : JBp p X W (.UnaryOp .Not a pos) (notT ta) := (pt_not ha).imp fun σ H Q h => by
  obtain ⟨hp, P, A, O, ρ, e, h⟩ := h
  refine ⟨hp, P, A, O, ρ, e, (Aft.bind (rl := relB X.K σ) h).mono ?_⟩
  rintro x H1 ⟨O1, ρ1, c, F, e1, rfl, s1, h1⟩
  exact h1 _ H1 O1 F e1 rfl s1
theorem jwp_and1 (ha : JBp p X W a ta) : JWp p X W (.BoolOp .And [a] pos) ta := pw_and1 ha
theorem jwp_or1 (ha : JBp p X W a ta) : JWp p X W (.BoolOp .Or [a] pos) ta := pw_or1 ha
theorem jwp_and (ha : JBp p X W a ta) (hb : JWp p X W (.BoolOp .And (b :: rest) pos) tb) : JWp p X W (.BoolOp .And (a :: b :: rest) pos) (DL.andM ta tb) := (pw_and ha hb).imp fun σ H Q h => by
  have h2 := bind_B h.2
  obtain ⟨P, A, O, ρ, e, h2⟩ := h2
  refine ⟨h.1, P, A, O, ρ, e, h2.mono ?_⟩
  intro c H1 q
  cases c with
  | true => exact ⟨h.1, q⟩
  | false => exact ret_B q
theorem jwp_or (ha : JBp p X W a ta) (hb : JWp p X W (.BoolOp .Or (b :: rest) pos) tb) : JWp p X W (.BoolOp .Or (a :: b :: rest) pos) (DL.orM ta tb) := (pw_or ha hb).imp fun σ H Q h => by
  have h2 := bind_B h.2
  obtain ⟨P, A, O, ρ, e, h2⟩ := h2
  refine ⟨h.1, P, A, O, ρ, e, h2.mono ?_⟩
  intro c H1 q
  cases c with
  | true => exact ret_B q
  | false => exact ⟨h.1, q⟩
theorem jsps_nil : JSps p X W [] (.ret .nx) := pss_nil.imp fun D σ H h => by
  obtain ⟨hp, P, A, O, ρ, e, h⟩ := h
  exact h σ H O e (Step.refl _ _) hp
theorem jsps_one (h1 : JSp p X W st m1) : JSps p X W [st] m1 := pss_one h1
theorem jsps_cons (h1 : JSp p X W st m1) (h2 : JSps p X W sts m2) : JSps p X W (st :: sts) (seqM m1 m2) := (pss_cons h1 h2).imp fun D σ H h => by
  obtain ⟨hp, P, A, O, ρ, e, h⟩ := h
  have z := AftS.seq h
  refine ⟨hp, P, A, O, ρ, e, ?_⟩
  cases q : m1 ρ with
  | ok f ρ1 =>
    rw [q] at z
    cases f with
    | nx => exact fun σ1 H1 O1 q s hp1 => let ⟨O2, ρ2, e2, h2⟩ := z σ1 H1 O1 q s; ⟨hp1, P, A, O2, ρ2, e2, h2⟩
    | bk => exact z
    | ct => exact z
    | rt r => exact z
  | exc x ρ1 =>
    rw [q] at z
    exact z
  | bad =>
    rw [q] at z
    exact z
theorem jsp_set {i : Nat} {x : Str} {pos' : Pos} {e : Expr} (hN : X.N.Nodup) (hi : X.N[i]? = some x) (hx : Loc X.env.scope x) (he : JEp p X W e ma) (hs : swapsWith e (some (.Name x pos')) pos.line X.env = pure false) (hf : X.fn x = true ∨ X.env.scope.names.lookup x = some .local) (hp : ∀ σ v, p σ → p (σ.set i v)) :
    JSp p X W (.Assign [.Name x pos'] e pos) (setS i ma) := (ps_set hN hi hx he hs hf).imp fun D σ H h => by
  obtain ⟨hps, P, A, O, ρ, e, h⟩ := h
  refine ⟨hps, P, A, O, ρ, e, (AftS.bind1 (rl := relR X.K σ) h).mono ?_⟩
  rintro x H1 ⟨O1, ρ1, ra, F, e1, r1, s1, h1⟩
  exact g_name P A O1 H1 σ ρ1 F x ra (.ret .nx) (nxp p D) e1 r1 (AftS.step h1 s1) (nxp p D).nx (fun σ' H' O' ρ' e' s' h' => h' σ' H' O' e' (Step.refl _ _)) (hp _ _ hps)
theorem jsp_if {c : Expr} {sa sb : List Stmt} (hc : JBp p X W c tb) (ha : JSps p X W sa m1) (hb : JSps p X W sb m2) : JSp p X W (.If c sa sb pos) (ifS tb m1 m2) := (ps_if hc ha hb).imp fun D σ H h => by
  obtain ⟨hp, P, A, O, ρ, e, h⟩ := h
  refine ⟨hp, P, A, O, ρ, e, (AftS.bind1 (rl := relB X.K σ) h).mono ?_⟩
  rintro x H1 ⟨O1, ρ1, c, F, e1, rfl, s1, h1⟩
  cases x with
  | true => exact ⟨hp, P, A, O1, ρ1, e1.less, h1.step s1.less⟩
  | false => exact ⟨hp, P, A, O1, ρ1, e1.less, h1.step s1.less⟩
theorem jsp_ret {e : Expr} (he : JEp p X W e ma) : JSp p X W (.Return (some e) pos) (retS ma) := (ps_ret he).imp fun D σ H h => by
  obtain ⟨hp, P, A, O, ρ, e, h⟩ := h
  refine ⟨hp, P, A, O, ρ, e, (AftS.bind1 (rl := relR X.K σ) h).mono ?_⟩
  rintro x H1 ⟨O1, ρ1, ra, F, e1, r1, s1, h1⟩
  exact h1 x σ H1 O1 F e1 r1 s1
theorem jsp_of (h : JSs X W [st] m1) (hn : ∀ ρ ρ', m1 ρ ≠ .ok .nx ρ') : JSps p X W [st] m1 := h.imp fun D σ H h => by
  obtain ⟨hp, P, A, O, ρ, e, h⟩ := h
  refine ⟨P, A, O, ρ, e, ?_⟩
  cases q : m1 ρ with
  | ok f ρ1 =>
    rw [q] at h
    cases f with
    | nx => exact (hn _ _ q).elim
    | bk => exact h
    | ct => exact h
    | rt r => exact h
  | exc x ρ1 => rw [q] at h; exact h
  | bad => rw [q] at h; exact h
end
/-! ### isinstance of the exception at hand -/
def pAt (i : Nat) (a : Addr) : Pz := fun σ => σ[i]? = some (some (.ref a))
def rIsET (K : PySem.W.Frag) (D a : Addr) : List V → Hp → VK → Prop := fun xs H Q => ∃ (tp : Addr) (cs : List V) (us : List Value) (b : Bool), xs = [.ref a, .ref tp] ∧ H tp = some (.tup cs) ∧ Paired ClsV cs us ∧ PySem.W.kitAny K (.ref D) us = some b ∧ Q (.bl b) H
theorem call_isET {X : Cx} {a D : Addr} {oe : Obj} {pn : List (Addr × Obj)} (C : ExcC X.K D) (hz : Zc (.ref D) none oe) (hf : ∃ vs, oe.data = .fields vs) : CallR (X.suite a ((a, oe) :: pn)) (.builtin "isinstance") (rIsET X.K D a) := by
  intro pins s σ H xs us Q I r h
  obtain ⟨tp, cs, ws, b, rfl, hT, k, e, q⟩ := h
  obtain ⟨u1, u2, rfl, r1, r2⟩ := vals2 r
  cases (show u1 = Value.ref a from r1)
  cases (show u2 = Value.ref tp from r2)
  obtain ⟨hget, _⟩ := I.pin (a, oe) (List.mem_append.mpr (.inl List.mem_cons_self))
  obtain ⟨vs, hv⟩ := hf
  have J : PySem.W.InstAt s.heap a oe D none := by
    obtain ⟨oc, od, oda, osl⟩ := oe
    obtain ⟨h1, h2⟩ := hz
    dsimp only at h1 h2 hv
    subst h1 h2 hv
    exact ⟨hget, rfl, rfl, trivial⟩
  obtain ⟨_, its, rv, o, h1, h2, n, h3⟩ := (show ObjOk X.prog X.w H s.heap tp (.tup cs) from I.hok tp _ hT)
  have e3 := ClsV.all k rv
  subst e3
  obtain ⟨oc, od, dt, sl⟩ := o
  simp only at h2 h3
  subst h2 h3
  exact PySem.W.kia_tup (PySem.W.handS_kitx_exc C.hg C.hk C.hs C.hd C.ha C.hn C.ht C.hm) I.kIn J h1 e (fun z => nomatch z) fun tk => ⟨.bl b, H, I.kept (t' := tk) fun _ _ z => z, rfl, q⟩
section
variable {X : Cx} {W : WX} {a D : Addr} {oe : Obj} {pn : List (Addr × Obj)} {i : Nat} {n T : Str} {p p2 p3 pos : Pos} {b : Bool}
theorem read_b {p : Pz} {σ : L2.St} {H : Hp} {Q : VK} {K : PySem.W.Frag} {mg : Str → Option Value} (h : p σ ∧ tR K mg W (cst (.bool b)) σ H Q) : Q (.bl b) H := ret_R h.2 (.bl b)
theorem jp_isE {cv : Value} {c : V} (C : ExcC X.K D) (hz : Zc (.ref D) none oe) (hf : ∃ vs, oe.data = .fields vs) (hN : X.N[i]? = some n) (hv : Vis X.env.scope n) (hd : (n == ("__debug__" : Str)) = false) (hcd : (n == ("__classdict__" : Str)) = false)
    (hg : Gl X "isinstance") (hm : X.mg "isinstance" = none) (hT : ∀ Y : Cx, Y.env = X.env → Y.mg = X.mg → PE Y (.Name T p3) (tC c)) (hc : ClsV c cv) (hk : PySem.W.kitOne X.K (.ref D) cv = some b)
    (he : starEach [.Name n p2, .Name T p3] X.env = (false, eval (.Name n p2) X.env) :: starEach [.Name T p3] X.env) (he2 : starEach [.Name T p3] X.env = (false, eval (.Name T p3) X.env) :: starEach [] X.env) (hpl : (backTo pos (starEach [.Name T p3] X.env)).any (·.1) = false) :
    JEp (pAt i a) (X.suite a ((a, oe) :: pn)) W (.Call (.Name "isinstance" p) [.Name n p2, .Name T p3] [] pos) (cst (.bool b)) :=
  (pe_callB (X := X.suite a ((a, oe) :: pn)) (call_isE C hz hf) hg hm (by decide +kernel) (pa_cons (pe_var (i := i) hN hv hd hcd) (pa_cons (hT _ rfl rfl) pa_nil he2) he) (by decide) (by decide) he hpl).imp fun σ H Q h =>
    ⟨_, h.1, c, cv, b, rfl, fun u r => hc.eq r, hk, read_b h⟩
theorem jp_isET {cs : List V} {us : List Value} {es : List Expr} {k : Nat} {tpos : Pos} (C : ExcC X.K D) (hz : Zc (.ref D) none oe) (hf : ∃ vs, oe.data = .fields vs) (hN : X.N[i]? = some n) (hv : Vis X.env.scope n) (hd : (n == ("__debug__" : Str)) = false) (hcd : (n == ("__classdict__" : Str)) = false)
    (hg : Gl X "isinstance") (hm : X.mg "isinstance" = none) (hT : ∀ Y : Cx, Y.env = X.env → Y.mg = X.mg → PA Y es (fun σ H Q => Q cs H)) (hl : cs.length ≤ 1000) (hc : Paired ClsV cs us) (hk : PySem.W.kitAny X.K (.ref D) us = some b)
    (he : starEach [.Name n p2, .Tuple es k tpos] X.env = (false, eval (.Name n p2) X.env) :: starEach [.Tuple es k tpos] X.env) (he2 : starEach [.Tuple es k tpos] X.env = (false, eval (.Tuple es k tpos) X.env) :: starEach [] X.env) (hpl : (backTo pos (starEach [.Tuple es k tpos] X.env)).any (·.1) = false) :
    JEp (pAt i a) (X.suite a ((a, oe) :: pn)) W (.Call (.Name "isinstance" p) [.Name n p2, .Tuple es k tpos] [] pos) (cst (.bool b)) :=
  (pe_callB (X := X.suite a ((a, oe) :: pn)) (call_isET C hz hf) hg hm (by decide +kernel) (pa_cons (pe_var (i := i) hN hv hd hcd) (pa_cons (pe_tup (hT _ rfl rfl)) pa_nil he2) he) (by decide) (by decide) he hpl).imp fun σ H Q h => by
    refine ⟨_, h.1, Nat.le_trans hl (by rw [sizeLine_eq]; decide), fun t ht => ?_⟩
    obtain ⟨_, P, A, O, ρ, e, h⟩ := h
    have z := Aft.tmp (v := .bl b) (H' := upd H t (.tup cs)) h e ⟨upd_more ht, ⟨[], .val (.bl b), fun _ z => absurd z List.not_mem_nil⟩, fun _ _ z => by cases z⟩
    exact ⟨t, cs, us, b, rfl, upd_same, hc, hk, z⟩
end
/-! ### try .. except C as n -/
def tryM (i : Nat) (mt : Str → Option Bool) (mb : M Fl) (ms : M Fl) : M Fl := fun ρ => match mb ρ with
  | .exc x ρ1 => (match mt x.cls with
    | some true => if x.fs = [] ∧ i < ρ1.length then (match ms (ρ1.set i none) with
      | .ok .nx ρ2 => .ok .nx (ρ2.set i none)
      | .ok .bk ρ2 => .ok .bk (ρ2.set i none)
      | .ok .ct ρ2 => .ok .ct (ρ2.set i none)
      | .ok (.rt r) ρ2 => .ok (.rt r) ρ2
      | _ => .bad) else .bad
    | some false => .exc x ρ1
    | none => .bad)
  | o => o
section
variable {X : Cx} {W : WX} {i : Nat} {n x : Str} {c : Value} {b₀ : Stmt} {body suite : List Stmt} {np pos pos' : Pos} {mt : Str → Option Bool} {mb ms : M Fl}
theorem js_tryAs (hs : X.stack = X.env :: X.outer) (hf : X.env.frame = some X.env.locals) (hN : X.N.Nodup) (hi : X.N[i]? = some n) (hln : X.env.kindOf n = some .local) (hc : Names X x c) (tk : Takes X W)
    (hmt : ∀ n b cls, mt n = some b → X.mg n = some cls → PySem.W.exmOne X.K cls c = some b)
    (hb : ∀ (W : WX) (pn : List (Addr × Obj)) (xe : Value → Shared → Prop), Takes (X.tr pn xe) W → PassesOwn (model X.prog X.w) X.A X.env xe → JSs (X.tr pn xe) W body mb)
    (hsu : ∀ (a : Addr) (oe : Obj) (cls : Value) (pn : List (Addr × Obj)) (y : Str), mt y = some true → X.mg y = some cls → Zc cls none oe → (∃ vs, oe.data = .fields vs) → JSps (pAt i a) (X.suite a ((a, oe) :: pn)) W0 (b₀ :: suite) ms) :
    JS X W (.Try body [.ExceptHandler (some (.Name x np)) (some n) (b₀ :: suite) pos'] [] [] pos) (tryM i mt mb ms) :=
  (ps_try_as (tb := fun _ => tS X.K X.mg _ mb) (ts := fun a cls d => fun D σ H => (∃ y, mt y = some true ∧ X.mg y = some cls ∧ d = none) ∧ (pAt i a σ ∧ tS X.K X.mg W0 ms (nxp (pAt i a) D) σ H)) hs hf hN hi hln hc tk hb
    (fun a oe cls d pn hz hv => ⟨fun pins s σ H D I z => by
      obtain ⟨⟨y, h1, h2, rfl⟩, z⟩ := z
      exact (hsu a oe cls pn y h1 h2 hz hv).run pins s σ H D I z⟩)).imp fun D σ H h => by
    obtain ⟨P, A, O, ρ, e, h⟩ := h
    refine ⟨P, A, O, ρ, e, ?_⟩
    unfold tryM at h
    cases q : mb ρ with
    | bad =>
      rw [q] at h
      exact h
    | ok fl ρ1 =>
      rw [q] at h
      cases fl <;> exact h
    | exc x ρ1 =>
      rw [q] at h
      dsimp only at h
      intro cls d σ1 H1 O1 e1 ex s1
      cases qm : mt x.cls with
      | none =>
        rw [qm] at h
        exact h.elim
      | some b =>
        rw [qm] at h
        refine ⟨b, hmt _ _ _ qm ex.1, fun hb a ha => ?_, fun hb => ?_⟩
        · subst hb
          dsimp only at h
          by_cases hx : x.fs = [] ∧ i < ρ1.length
          · rw [if_pos hx] at h
            have hd : d = none := by
              cases d with
              | none => rfl
              | some dd => exact absurd hx.1 ex.2.1
            have hl : i < σ1.length := by rw [← e1.len]; exact hx.2
            refine ⟨⟨x.cls, qm, ex.1, hd⟩, by unfold pAt; simp [hl], P, A, O1, ρ1.set i none, (e1.forget i).slots (by rw [List.length_set]) fun j t q => ?_, ?_⟩
            · rcases get_set q with ⟨_, z⟩ | ⟨hj, _⟩
              · cases z
              · rw [List.getElem?_set_ne (Ne.symm hj)]
            · have back : ∀ {σ2 H2 O2 ρ2}, EnvR X.K P A O2 H2 σ2 ρ2 → EnvR X.K P A O2 H2 (σ2.set i none) (ρ2.set i none) := fun {σ2 H2 O2 ρ2} e2 => (e2.forget i).slots (by rw [List.length_set]) fun j t q => by
                rcases get_set q with ⟨_, z⟩ | ⟨hj, _⟩
                · cases z
                · rw [List.getElem?_set_ne (Ne.symm hj)]
              cases q2 : ms (ρ1.set i none) with
              | bad => rw [q2] at h; exact h.elim
              | exc y ρ2 => rw [q2] at h; exact h.elim
              | ok fl ρ2 =>
                rw [q2] at h
                cases fl with
                | nx => exact fun σ2 H2 O2 e2 s2 _ => h _ H2 O2 (back e2) (s1.trans s2)
                | bk => exact fun σ2 H2 O2 e2 s2 => h _ H2 O2 (back e2) (s1.trans s2)
                | ct => exact fun σ2 H2 O2 e2 s2 => h _ H2 O2 (back e2) (s1.trans s2)
                | rt r => exact fun v σ2 H2 O2 F e2 r2 s2 => h v σ2 H2 O2 F e2 r2 (s1.trans s2)
          · rw [if_neg hx] at h
            exact h.elim
        · subst hb
          exact h cls d σ1 H1 O1 e1 ex s1
end
end DL

set_option Elab.async false
set_option maxRecDepth 100000
set_option maxHeartbeats 4000000
namespace DL
open PySem PySem.Spec PyProof.Rows L2
/-! ### written constants -/
mutual
def kRp (K : PySem.W.Frag) : Nat → Value → D → Bool
  | _, .none, .none => true
  | _, .bool a, .bool b => a == b
  | _, .int i _, .int j => decide (i = j)
  | _, .str x _, .str y => decide (x = y)
  | n + 1, .ref a, .tuple ds => (match K.lookup a with
    | some ⟨.type c, _, .seq its _, _⟩ => decide (c = "tuple") && (decide (its.size ≤ sizeLine) && kRps K n its.toList ds)
    | _ => false)
  | n + 1, .ref a, .list ds => (match K.lookup a with
    | some ⟨.type c, none, .seq its _, _⟩ => decide (c = "list") && (decide (its.size ≤ sizeLine) && kRps K n its.toList ds)
    | _ => false)
  | _, _, _ => false
def kRps (K : PySem.W.Frag) : Nat → List Value → List D → Bool
  | _, [], [] => true
  | n + 1, u :: us, d :: ds => kRp K n u d && kRps K n us ds
  | _, _, _ => false
end
theorem kRp_both {K : PySem.W.Frag} : ∀ n : Nat, (∀ (u : Value) (d : D), kRp K n u d = true → ∃ v, RelV v u ∧ ∀ H, Rp K H v d) ∧ ∀ (us : List Value) (ds : List D), kRps K n us ds = true → ∃ vs, Vals vs us ∧ ∀ H, RpAll K H vs ds := by
  intro n
  induction n with
  | zero =>
    refine ⟨fun u d h => ?_, fun us ds h => ?_⟩
    · cases d with
      | none => cases u <;> simp [kRp] at h; exact ⟨.non, rfl, fun _ => .non⟩
      | bool b => cases u <;> simp [kRp] at h; subst h; exact ⟨.bl _, rfl, fun _ => .bl _⟩
      | int b => cases u <;> simp [kRp] at h; subst h; exact ⟨.int _, ⟨_, rfl⟩, fun _ => .int _⟩
      | str b => cases u <;> simp [kRp] at h; subst h; exact ⟨.str _, ⟨_, rfl⟩, fun _ => .str _⟩
      | list b => cases u <;> simp [kRp] at h
      | tuple b => cases u <;> simp [kRp] at h
      | dict b => cases u <;> simp [kRp] at h
    · cases us with
      | nil => cases ds with
        | nil => exact ⟨[], .nil, fun _ => .nil⟩
        | cons d ds => simp [kRps] at h
      | cons u us => simp [kRps] at h
  | succ n ih =>
    refine ⟨fun u d h => ?_, fun us ds h => ?_⟩
    · cases d with
      | none => cases u <;> simp [kRp] at h; exact ⟨.non, rfl, fun _ => .non⟩
      | bool b => cases u <;> simp [kRp] at h; subst h; exact ⟨.bl _, rfl, fun _ => .bl _⟩
      | int b => cases u <;> simp [kRp] at h; subst h; exact ⟨.int _, ⟨_, rfl⟩, fun _ => .int _⟩
      | str b => cases u <;> simp [kRp] at h; subst h; exact ⟨.str _, ⟨_, rfl⟩, fun _ => .str _⟩
      | list ds =>
        cases u with
        | ref a =>
          unfold kRp at h
          split at h
          · rename_i c its m sl q
            simp only [Bool.and_eq_true, decide_eq_true_eq] at h
            obtain ⟨h1, h2, h3⟩ := h
            subst h1
            obtain ⟨vs, rv, r⟩ := ih.2 _ _ h3
            exact ⟨.ref a, rfl, fun H => .lst (.inr ⟨_, its, m, q, rfl, rfl, rfl, h2, rv⟩) (r H)⟩
          · cases h
        | _ => simp [kRp] at h
      | tuple ds =>
        cases u with
        | ref a =>
          unfold kRp at h
          split at h
          · rename_i c od its m sl q
            simp only [Bool.and_eq_true, decide_eq_true_eq] at h
            obtain ⟨h1, h2, h3⟩ := h
            subst h1
            obtain ⟨vs, rv, r⟩ := ih.2 _ _ h3
            exact ⟨.ref a, rfl, fun H => .tup (.inr ⟨_, its, m, q, rfl, rfl, h2, rv⟩) (r H)⟩
          · cases h
        | _ => simp [kRp] at h
      | dict b => cases u <;> simp [kRp] at h
    · cases us with
      | nil => cases ds with
        | nil => exact ⟨[], .nil, fun _ => .nil⟩
        | cons d ds => simp [kRps] at h
      | cons u us => cases ds with
        | nil => simp [kRps] at h
        | cons d ds =>
          unfold kRps at h
          rw [Bool.and_eq_true] at h
          obtain ⟨v, r1, r2⟩ := ih.1 _ _ h.1
          obtain ⟨vs, s1, s2⟩ := ih.2 _ _ h.2
          exact ⟨v :: vs, .cons r1 s1, fun H => .cons (r2 H) (s2 H)⟩
theorem kRp_ok {K : PySem.W.Frag} {n : Nat} {u : Value} {d : D} (h : kRp K n u d = true) : ∃ v, RelV v u ∧ ∀ H, Rp K H v d := (kRp_both n).1 u d h
/-- the module's name x is this thing -/
def gRp (K : PySem.W.Frag) (x : Str) (d : D) : Bool := match PySem.W.nsIn K mainGlobals x with
  | some (some u) => kRp K 50 u d
  | _ => false
structure GlD (K : PySem.W.Frag) (mg : Str → Option Value) (x : Str) (d : D) : Prop where
  ex : ∃ u v, mg x = some u ∧ RelV v u ∧ ∀ H, Rp K H v d
theorem gRp_ok {K : PySem.W.Frag} {h : Heap} {mg : Str → Option Value} {x : Str} {d : D} (X : K.In h) (G : h.Ns mainGlobals mg) (q : gRp K x d = true) : GlD K mg x d := by
  unfold gRp at q
  split at q
  · rename_i u e
    obtain ⟨v, r1, r2⟩ := kRp_ok q
    exact ⟨u, v, PySem.W.mg_of X G e, r1, r2⟩
  · cases q
theorem j_glob {X : Cx} {W : WX} {x : Str} {d : D} {pos : Pos} (hg : Gl X x) (c : GlD X.K X.mg x d) (hd : (x == ("__debug__" : Str)) = false) : JE X W (.Name x pos) (cst d) := by
  obtain ⟨u, v, e, r1, r2⟩ := c.ex
  exact j_const (pe_glob hg e r1 hd) (r2 _)
/-! ### classes, as the written part tells them -/
def excB (K : PySem.W.Frag) (x : Str) : Bool := (He.Fa.exc x).ok K && He.eqO (PySem.W.nsIn K mainGlobals x) (some (some (.ref (He.ga K x))))
theorem excB_ok {K : PySem.W.Frag} {h : Heap} {mg : Str → Option Value} {x : Str} (X : K.In h) (G : h.Ns mainGlobals mg) (q : excB K x = true) : RaC K mg x (He.ga K x) := by
  unfold excB at q
  rw [Bool.and_eq_true] at q
  obtain ⟨h1, h2, h3, h4⟩ := He.exc_ok q.1
  exact ⟨h1, PySem.W.mg_of X G (He.eqO_ok q.2), h2, h3, h4⟩
def excCB (K : PySem.W.Frag) (D : Addr) : Bool := He.eqO (PySem.W.findIn K (.ref D) "__getattribute__") (some (some (.builtin "BaseException.__getattribute__"))) && (He.eqO (PySem.W.findIn K (.ref D) "__getattr__") (some none) &&
  (decide (PySem.W.subIn K (.ref D) (.type "BaseException") = some true) && (PySem.W.hasDictIn K D && (He.eqO (PySem.W.findIn K (.ref D) "__class__") (some (some (.builtin "object.__class__"))) &&
  (He.eqO (PySem.W.specialIn K (.builtin "object.__class__") "__get__") (some (some (.builtin "getset_descriptor.__get__"))) && (decide (PySem.W.takesIn K (.builtin "object.__class__") = some true) && decide (PySem.W.mroIn K D (.type "object") = some true)))))))
theorem excCB_ok {K : PySem.W.Frag} {D : Addr} (q : excCB K D = true) : ExcC K D := by
  unfold excCB at q
  simp only [Bool.and_eq_true, decide_eq_true_eq] at q
  obtain ⟨h1, h2, h3, h4, h5, h6, h7, h8⟩ := q
  exact ⟨He.eqO_ok h1, He.eqO_ok h2, h3, h4, He.eqO_ok h5, He.eqO_ok h6, h7, h8⟩
/-! ### the head's hook, with facts of our own -/
def obsX (fx : PySem.W.Frag → Bool) (fa : List He.Fa) (fn : List He.DefD) (K : PySem.W.Frag) : He.AlD := ((He.obsD fa fn K).1 && fx K, (He.obsD fa fn K).2)
def SaysX (fx : PySem.W.Frag → Bool) (fa : List He.Fa) (fn : List He.DefD) (K : PySem.W.Frag) : Prop := obsX fx fa fn K = He.valD fn
theorem SaysX.says {fx : PySem.W.Frag → Bool} {fa : List He.Fa} {fn : List He.DefD} {K : PySem.W.Frag} (h : SaysX fx fa fn K) : He.SaysD fa fn K ∧ fx K = true := by
  have h1 : ((He.obsD fa fn K).1 && fx K) = true := congrArg (fun z : He.AlD => z.1) h
  have h2 : (He.obsD fa fn K).2 = fn.map He.DefD.val := congrArg (fun z : He.AlD => z.2) h
  rw [Bool.and_eq_true] at h1
  refine ⟨?_, h1.2⟩
  show He.obsD fa fn K = (true, fn.map He.DefD.val)
  rw [← h1.1, ← h2]
def obsXG (n : Nat) (fx : PySem.W.Frag → Bool) (fa : List He.Fa) (fn : List He.DefD) (g : Addr → Option Obj) : He.AlD := obsX fx fa fn (He.frG g (He.asD g n))
def hookX (n : Nat) (fx : PySem.W.Frag → Bool) (fa : List He.Fa) (fn : List He.DefD) : PySem.W.Hook where
  α := He.AlD
  obs := fun s => obsXG n fx fa fn s.heap.get?
  val := fun _ => He.valD fn
  says := fun _ h => ∃ K : PySem.W.Frag, K.In h ∧ SaysX fx fa fn K
  of := fun _ _ e => ⟨_, He.frG_in, e⟩
  keeps := fun _ _ _ ⟨K, hK, c⟩ k => ⟨K, PySem.W.Frag.In.keeps hK k, c⟩
theorem obsXG_eq {n : Nat} {fx : PySem.W.Frag → Bool} {fa : List He.Fa} {fn : List He.DefD} {g : Addr → Option Obj} {s : Shared} (h : ∀ a, g a = s.heap.get? a) : obsXG n fx fa fn g = (hookX n fx fa fn).obs s := by
  have e : g = s.heap.get? := funext h
  rw [e] <;> rfl
end DL

set_option Elab.async false
set_option maxRecDepth 100000
set_option maxHeartbeats 4000000
namespace DL
open PySem PySem.Spec PyProof.Rows L2
def fIsB : D → D → Option T
  | .bool a, .bool b => some (.val (.bool (decide (a = b))))
  | _, _ => none
def fIsNotB : D → D → Option T
  | .bool a, .bool b => some (.val (.bool (!decide (a = b))))
  | _, _ => none
theorem isB_ok {K : PySem.W.Frag} : OpOk K (fun x y H Q => ∃ a b, x = .bl a ∧ y = .bl b ∧ Q (.bl (decide (a = b))) H) fIsB := by
  intro Z H x y d e t Q hz hx hy hf q
  unfold fIsB at hf
  split at hf
  · cases hf
    cases hx.bool
    cases hy.bool
    exact ⟨_, _, rfl, rfl, q _ _ (NewT.scal (.bl _))⟩
  · cases hf
theorem isNotB_ok {K : PySem.W.Frag} : OpOk K (fun x y H Q => ∃ a b, x = .bl a ∧ y = .bl b ∧ Q (.bl (!decide (a = b))) H) fIsNotB := by
  intro Z H x y d e t Q hz hx hy hf q
  unfold fIsNotB at hf
  split at hf
  · cases hf
    cases hx.bool
    cases hy.bool
    exact ⟨_, _, rfl, rfl, q _ _ (NewT.scal (.bl _))⟩
  · cases hf
@[simp] theorem fIsB_bb (a b : Bool) : fIsB (.bool a) (.bool b) = some (.val (.bool (decide (a = b)))) := (rfl)
@[simp] theorem fIsNotB_bb (a b : Bool) : fIsNotB (.bool a) (.bool b) = some (.val (.bool (!decide (a = b)))) := (rfl)
/-! ### which class a clause takes -/
def clsOf (l : List (Str × Bool)) (n : Str) : Option Bool := l.lookup n
inductive Hmt (K : PySem.W.Frag) (mg : Str → Option Value) (c : Value) : List (Str × Bool) → Prop where
  | nil : Hmt K mg c []
  | cons {x : Str} {D : Addr} {b : Bool} {l : List (Str × Bool)} : PySem.W.exmOne K (.ref D) c = some b → mg x = some (.ref D) → Hmt K mg c l → Hmt K mg c ((x, b) :: l)
theorem Hmt.ok {K : PySem.W.Frag} {mg : Str → Option Value} {c : Value} : ∀ {l : List (Str × Bool)}, Hmt K mg c l → ∀ n b cls, clsOf l n = some b → mg n = some cls → PySem.W.exmOne K cls c = some b
  | _, .nil, n, b, cls, h, _ => by cases h
  | (x, b0) :: l, .cons h1 h2 t, n, b, cls, h, g => by
    unfold clsOf at h
    rw [List.lookup_cons] at h
    by_cases e : n = x
    · subst e
      simp at h
      subst h
      rw [h2] at g
      cases g
      exact h1
    · have : (n == x) = false := by simpa using e
      rw [this] at h
      exact Hmt.ok t n b cls h g
theorem one_of {l : List (Str × Bool)} {C : Str} (h : (l.all fun p => !p.2 || p.1 == C) = true) : ∀ y, clsOf l y = some true → y = C := by
  intro y hy
  unfold clsOf at hy
  induction l with
  | nil => cases hy
  | cons p l ih =>
    obtain ⟨x, b⟩ := p
    rw [List.lookup_cons] at hy
    simp only [List.all_cons, Bool.and_eq_true] at h
    by_cases e : y = x
    · subst e
      simp at hy
      subst hy
      simpa using h.1
    · have : (y == x) = false := by simpa using e
      rw [this] at hy
      exact ih h.2 hy
section
variable {X : Cx} {W : WX} {i : Nat} {n x : Str} {D : Addr} {b₀ : Stmt} {body suite : List Stmt} {np pos pos' : Pos} {l : List (Str × Bool)} {mb ms : M Fl}
theorem js_tryAs1 (hs : X.stack = X.env :: X.outer) (hf : X.env.frame = some X.env.locals) (hN : X.N.Nodup) (hi : X.N[i]? = some n) (hln : X.env.kindOf n = some .local) (hg : Gl X x) (hdb : (x == ("__debug__" : Str)) = false) (hm : X.mg x = some (.ref D)) (tk : Takes X W)
    (hmt : Hmt X.K X.mg (.ref D) l) (hone : (l.all fun p => !p.2 || p.1 == x) = true)
    (hb : ∀ (W : WX) (pn : List (Addr × Obj)) (xe : Value → Shared → Prop), Takes (X.tr pn xe) W → PassesOwn (model X.prog X.w) X.A X.env xe → JSs (X.tr pn xe) W body mb)
    (hsu : ∀ (a : Addr) (oe : Obj) (pn : List (Addr × Obj)), Zc (.ref D) none oe → (∃ vs, oe.data = .fields vs) → JSps (pAt i a) (X.suite a ((a, oe) :: pn)) W0 (b₀ :: suite) ms) :
    JS X W (.Try body [.ExceptHandler (some (.Name x np)) (some n) (b₀ :: suite) pos'] [] [] pos) (tryM i (clsOf l) mb ms) :=
  js_tryAs hs hf hN hi hln ⟨hg, hdb, .inl hm⟩ tk hmt.ok hb fun a oe cls pn y h1 h2 hz hv => by
    cases one_of hone y h1
    rw [hm] at h2
    cases h2
    exact hsu a oe pn hz hv
theorem hT_own {T : Str} {A : Addr} {p : Pos} (hg : Gl X T) (hm : X.mg T = some (.ref A)) (hd : (T == ("__debug__" : Str)) = false) : ∀ Y : Cx, Y.env = X.env → Y.mg = X.mg → PE Y (.Name T p) (tC (.ref A)) := fun Y h1 h2 =>
  pe_glob (show Y.env.kindOf T = _ by rw [h1]; exact hg) (by rw [h2]; exact hm) rfl hd
theorem hT_ty {T : Str} {t : String} {p : Pos} (hg : Gl X T) (hm : X.mg T = none) (hv : bootBuiltins T = some (.type t)) (hn : T ≠ "__name__") (hd : (T == ("__debug__" : Str)) = false) : ∀ Y : Cx, Y.env = X.env → Y.mg = X.mg → PE Y (.Name T p) (tC (.ty t)) := fun Y h1 h2 =>
  pe_bltn (show Y.env.kindOf T = _ by rw [h1]; exact hg) (by rw [h2]; exact hm) hv rfl hn hd
theorem hT_nil : ∀ Y : Cx, Y.env = X.env → Y.mg = X.mg → PA Y [] (fun σ H Q => Q [] H) := fun Y _ _ => pa_nil
theorem hT_cons {e : Expr} {es : List Expr} {c : V} {cs : List V} (h1 : ∀ Y : Cx, Y.env = X.env → Y.mg = X.mg → PE Y e (tC c)) (h2 : ∀ Y : Cx, Y.env = X.env → Y.mg = X.mg → PA Y es (fun σ H Q => Q cs H)) (hs : ∀ env, starEach (e :: es) env = (false, eval e env) :: starEach es env) :
    ∀ Y : Cx, Y.env = X.env → Y.mg = X.mg → PA Y (e :: es) (fun σ H Q => Q (c :: cs) H) := fun Y a b => pa_cons (h1 Y a b) (h2 Y a b) (hs _)
end
/-! ### running -/
@[simp] theorem raiseM_ap (x : Str) (ρ : Rho) : raiseM x ρ = .exc ⟨x, []⟩ ρ := (rfl)
def tryE (i : Nat) (mt : Str → Option Bool) (ms : M Fl) (x : XD) (ρ1 : Rho) : Out Fl := match mt x.cls with
    | some true => if x.fs = [] ∧ i < ρ1.length then (match ms (ρ1.set i none) with
      | .ok .nx ρ2 => .ok .nx (ρ2.set i none)
      | .ok .bk ρ2 => .ok .bk (ρ2.set i none)
      | .ok .ct ρ2 => .ok .ct (ρ2.set i none)
      | .ok (.rt r) ρ2 => .ok (.rt r) ρ2
      | _ => .bad) else .bad
    | some false => .exc x ρ1
    | none => .bad
def Out.tr (o : Out Fl) (k : XD → Rho → Out Fl) : Out Fl := match o with
  | .exc x ρ => k x ρ
  | o => o
@[simp] theorem tr_ok (f : Fl) (ρ : Rho) (k : XD → Rho → Out Fl) : (Out.ok f ρ).tr k = .ok f ρ := (rfl)
@[simp] theorem tr_exc (x : XD) (ρ : Rho) (k : XD → Rho → Out Fl) : (Out.exc x ρ : Out Fl).tr k = k x ρ := (rfl)
@[simp] theorem tryM_ap (i : Nat) (mt : Str → Option Bool) (mb ms : M Fl) (ρ : Rho) : tryM i mt mb ms ρ = (mb ρ).tr (tryE i mt ms) := by
  unfold tryM Out.tr tryE
  cases mb ρ with
  | ok f ρ' => rfl
  | exc x ρ' => rfl
  | bad => rfl
def trEnd (i : Nat) (o : Out Fl) : Out Fl := match o with
  | .ok .nx ρ2 => .ok .nx (ρ2.set i none)
  | .ok .bk ρ2 => .ok .bk (ρ2.set i none)
  | .ok .ct ρ2 => .ok .ct (ρ2.set i none)
  | .ok (.rt r) ρ2 => .ok (.rt r) ρ2
  | _ => .bad
@[simp] theorem trEnd_nx (i : Nat) (ρ : Rho) : trEnd i (.ok .nx ρ) = .ok .nx (ρ.set i none) := (rfl)
@[simp] theorem trEnd_rt (i : Nat) (r : R) (ρ : Rho) : trEnd i (.ok (.rt r) ρ) = .ok (.rt r) ρ := (rfl)
theorem tryE_yes {i : Nat} {mt : Str → Option Bool} {ms : M Fl} {x : Str} {ρ : Rho} (h : mt x = some true) (hi : i < ρ.length) : tryE i mt ms ⟨x, []⟩ ρ = trEnd i (ms (ρ.set i none)) := by
  unfold tryE
  simp only [h]
  rw [if_pos ⟨trivial, hi⟩]
  rfl
end DL

set_option Elab.async false
set_option maxRecDepth 100000
set_option maxHeartbeats 4000000
namespace DL
open PySem L2
/-! ### rows of numbers are the same -/
theorem ints_shaped (xs : List Int) : PyData.canLayAll0 (xs.map .int) = true ∧ PyData.depthAll (xs.map .int) = 0 ∧ ∀ ys : List Int, PyData.eqvAll (xs.map .int) (ys.map .int) = decide (xs = ys) := by
  induction xs with
  | nil => exact ⟨by simp [PyData.canLayAll0], by simp [PyData.depthAll], fun ys => by cases ys <;> simp [PyData.eqvAll]⟩
  | cons x xs ih =>
    refine ⟨by simp [PyData.canLayAll0, PyData.canLay0, ih.1], by simp [PyData.depthAll, PyData.depth, ih.2.1], fun ys => ?_⟩
    cases ys with
    | nil => simp [PyData.eqvAll]
    | cons y ys =>
      simp only [List.map_cons, PyData.eqvAll, PyData.eqv, ih.2.2 ys]
      by_cases h : x = y <;> simp [h]
theorem shaped_t (xs : List Int) : SeqAt.shaped (.tuple (xs.map .int)) = true := by
  unfold SeqAt.shaped
  rw [PyData.canLay0, PyData.depth, (ints_shaped xs).1, (ints_shaped xs).2.1]
  rfl
theorem eqD_t (xs ys : List Int) : eqD (.tuple (xs.map .int)) (.tuple (ys.map .int)) = some (decide (xs = ys)) := by
  unfold eqD
  have e : eqS (.tuple (xs.map .int)) (.tuple (ys.map .int)) = none := rfl
  rw [e]
  simp only [shaped_t, PyData.eqv, (ints_shaped xs).2.2 ys]
  rfl
theorem fEq_t (xs ys : List Int) : fEq (.tuple (xs.map .int)) (.tuple (ys.map .int)) = some (.val (.bool (decide (xs = ys)))) := by
  unfold fEq
  rw [eqD_t]
  rfl
@[simp] theorem fEq_t2 (a b c d : Int) : fEq (.tuple [.int a, .int b]) (.tuple [.int c, .int d]) = some (.val (.bool (decide (a = c ∧ b = d)))) := by
  have := fEq_t [a, b] [c, d]
  simpa using this
@[simp] theorem fEq_t4 (a b c d a' b' c' d' : Int) : fEq (.tuple [.int a, .int b, .int c, .int d]) (.tuple [.int a', .int b', .int c', .int d']) = some (.val (.bool (decide (a = a' ∧ b = b' ∧ c = c' ∧ d = d')))) := by
  have := fEq_t [a, b, c, d] [a', b', c', d']
  simpa using this
theorem fNe_t (xs ys : List Int) : fNe (.tuple (xs.map .int)) (.tuple (ys.map .int)) = some (.val (.bool (!decide (xs = ys)))) := by
  unfold fNe
  rw [eqD_t]
  rfl
@[simp] theorem fNe_t4 (a b c d a' b' c' d' : Int) : fNe (.tuple [.int a, .int b, .int c, .int d]) (.tuple [.int a', .int b', .int c', .int d']) = some (.val (.bool (!decide (a = a' ∧ b = b' ∧ c = c' ∧ d = d')))) := by
  have := fNe_t [a, b, c, d] [a', b', c', d']
  simpa using this
@[simp] theorem fNe_t2 (a b c d : Int) : fNe (.tuple [.int a, .int b]) (.tuple [.int c, .int d]) = some (.val (.bool (!decide (a = c ∧ b = d)))) := by
  have := fNe_t [a, b] [c, d]
  simpa using this
/-! ### fractions -/
noncomputable def g_common : M Fl := seqM (setS 0 (callB fAbs (argC (getM 0) (argN))))
  (seqM (setS 1 (callB fAbs (argC (getM 1) (argN))))
  (seqM (whileC (tcmp fGt (getM 1) (cst (.int 0))) (parS [0, 1] (argC (getM 1) (argC (bin fMod (getM 0) (getM 1)) (argN)))))
  (retS (getM 0))))
abbrev gcdT : M Bool := tcmp fGt (getM 1) (cst (.int 0))
abbrev gcdB : M Fl := parS [0, 1] (argC (getM 1) (argC (bin fMod (getM 0) (getM 1)) (argN)))
theorem gcd_loop : ∀ (b a : Nat), ∃ x : Int, whileC gcdT gcdB [iD a, iD b] = .ok .nx [iD (Nat.gcd a b), x |> iD] := fun b => by
  induction b using Nat.strongRecOn with
  | ind b ih =>
    intro a
    rw [while_ap]
    by_cases hb : b = 0
    · subst hb
      refine ⟨0, ?_⟩
      simp [iD]
    · have h0 : (0 : Int) < b := by omega
      have h1 : (b : Int) ≠ 0 := by omega
      obtain ⟨x, hx⟩ := ih (a % b) (Nat.mod_lt _ (by omega)) b
      have e : ((a : Int).fmod b) = ((a % b : Nat) : Int) := by
        rw [Int.fmod_eq_emod_of_nonneg _ (by omega)]
        exact (Int.natCast_emod a b).symm
      have g : Nat.gcd b (a % b) = Nat.gcd a b := by rw [Nat.gcd_comm a b, Nat.gcd_rec b a, Nat.gcd_comm]
      refine ⟨x, ?_⟩
      rw [g] at hx
      simp only [iD, Int.natCast_emod] at hx ⊢
      simp [show 0 < b by omega, hb, e, hx]
noncomputable def f_common : List D → FO := runF 0 g_common
theorem common_ok (a b : Int) : f_common [.int a, .int b] = .ok (.val (.int (Nat.gcd a.natAbs b.natAbs))) := by
  unfold f_common g_common
  rw [run_eq]
  obtain ⟨x, hx⟩ := gcd_loop b.natAbs a.natAbs
  simp only [iD] at hx
  simp [hx]
noncomputable def g_isfrac : M Fl := seqM (ifS (DL.orM (notT (tst (isi isTup (getM 0)))) (DL.orM (tcmp fNe (callB fLen (argC (getM 0) (argN))) (cst (.int 2))) (DL.orM (notT (tst (callF f_whole (argC (bin fIx (getM 0) (cst (.int 0))) (argN))))) (notT (tst (callF f_whole (argC (bin fIx (getM 0) (cst (.int 1))) (argN)))))))) (retS (cst (.bool false))) (nilS))
  (seqM (ifS (tcmp fEq (bin fIx (getM 0) (cst (.int 1))) (cst (.int 0))) (retS (bin fEq (bin fIx (getM 0) (cst (.int 0))) (cst (.int 1)))) (nilS))
  (retS (vAnd (bin fGt (bin fIx (getM 0) (cst (.int 1))) (cst (.int 0))) (bin fEq (callF f_common (argC (bin fIx (getM 0) (cst (.int 0))) (argC (bin fIx (getM 0) (cst (.int 1))) (argN)))) (cst (.int 1))))))
noncomputable def f_isfrac : List D → FO := runF 0 g_isfrac
/-- what a fraction is -/
def isF (p q : Int) : Prop := (q = 0 ∧ p = 1) ∨ (0 < q ∧ Nat.gcd p.natAbs q.natAbs = 1)
theorem isfrac_t {p q : Int} (h : isF p q) : f_isfrac [.tuple [.int p, .int q]] = .ok (.val (.bool true)) := by
  unfold f_isfrac g_isfrac
  rw [run_eq]
  rcases h with ⟨rfl, rfl⟩ | ⟨h1, h2⟩
  · simp [isTup, whole_ok, whole, isInt, isBool]
  · have h0 : q ≠ 0 := by omega
    simp [isTup, whole_ok, whole, isInt, isBool, h0, h1, common_ok, h2]
noncomputable def g_fraction : M Fl := seqM (setS 2 (callF f_common (argC (getM 0) (argC (getM 1) (argN)))))
  (seqM (ifS (tcmp fEq (getM 2) (cst (.int 0))) (raiseM "NoFraction") (nilS))
  (seqM (ifS (tcmp fEq (getM 1) (cst (.int 0))) (retS (cst (.tuple [(.int 1), (.int 0)]))) (nilS))
  (seqM (ifS (tcmp fLt (getM 1) (cst (.int 0))) (setS 2 (bin fSub (cst (.int 0)) (getM 2))) (nilS))
  (retS (tupM (argC (bin fDiv (getM 0) (getM 2)) (argC (bin fDiv (getM 1) (getM 2)) (argN))))))))
noncomputable def f_fraction : List D → FO := runF 1 g_fraction
/-- numbers that are no too great -/
def Sm (i : Int) : Prop := i.natAbs < 2 ^ 4000
theorem fraction_zero : f_fraction [.int 0, .int 0] = .exc ⟨"NoFraction", []⟩ := by
  unfold f_fraction g_fraction
  rw [run_eq]
  simp [common_ok]
theorem frac_up {p q g : Int} (hg : f_common [.int p, .int q] = .ok (.val (.int g))) (g0 : g ≠ 0) (q0 : 0 < q) (d1 : bDivZ p g = true) (d2 : bDivZ q g = true) : f_fraction [.int p, .int q] = .ok (.val (.tuple [.int (p.fdiv g), .int (q.fdiv g)])) := by
  have h1 : q ≠ 0 := by omega
  have h2 : ¬ q < 0 := by omega
  unfold f_fraction g_fraction
  rw [run_eq]
  simp [hg, g0, h1, h2, d1, d2]
theorem frac_down {p q g : Int} (hg : f_common [.int p, .int q] = .ok (.val (.int g))) (g0 : g ≠ 0) (q0 : q < 0) (d1 : bDivZ p (-g) = true) (d2 : bDivZ q (-g) = true) : f_fraction [.int p, .int q] = .ok (.val (.tuple [.int (p.fdiv (-g)), .int (q.fdiv (-g))])) := by
  have h1 : q ≠ 0 := by omega
  unfold f_fraction g_fraction
  rw [run_eq]
  simp [hg, g0, h1, q0, d1, d2]
/-- the fraction made of two numbers: upper, lower; g the part taken out -/
theorem fraction_ok {p q : Int} (h : ¬ (p = 0 ∧ q = 0)) (hp : Sm p) (hq : Sm q) : ∃ a b g : Int, isF a b ∧ g ≠ 0 ∧ p = a * g ∧ q = b * g ∧ f_fraction [.int p, .int q] = .ok (.val (.tuple [.int a, .int b])) := by
  have hg := common_ok p q
  have sp : ∀ {i : Int}, i.natAbs < 2 ^ 4000 → i ≠ 0 → ∀ j, bDivZ j i = true := fun h h0 j => bDivZ_of 4000 h0 h (by omega)
  have d1 : ((Nat.gcd p.natAbs q.natAbs : Nat) : Int) ∣ p := Int.ofNat_dvd_left.mpr (Nat.gcd_dvd_left _ _)
  have d2 : ((Nat.gcd p.natAbs q.natAbs : Nat) : Int) ∣ q := Int.ofNat_dvd_left.mpr (Nat.gcd_dvd_right _ _)
  have g0 : Nat.gcd p.natAbs q.natAbs ≠ 0 := fun z => h (by
    obtain ⟨z1, z2⟩ := Nat.gcd_eq_zero_iff.mp z
    exact ⟨Int.natAbs_eq_zero.mp z1, Int.natAbs_eq_zero.mp z2⟩)
  by_cases hq0 : q = 0
  · subst hq0
    have hp0 : p ≠ 0 := fun z => h ⟨z, rfl⟩
    refine ⟨1, 0, p, .inl ⟨rfl, rfl⟩, hp0, by omega, by omega, ?_⟩
    unfold f_fraction g_fraction
    rw [run_eq]
    simp [common_ok, hp0]
  · generalize hgd : Nat.gcd p.natAbs q.natAbs = g at hg d1 d2 g0
    obtain ⟨a0, rfl⟩ := d1
    obtain ⟨b0, rfl⟩ := d2
    have gs : (g : Int).natAbs < 2 ^ 4000 := by
      have h1 : g ≤ ((g : Int) * b0).natAbs := by
        rw [Int.natAbs_mul]
        have : b0.natAbs ≠ 0 := fun z => hq0 (by rw [Int.natAbs_eq_zero.mp z, Int.mul_zero])
        exact Nat.le_mul_of_pos_right _ (by omega)
      have h2 : ((g : Int) * b0).natAbs < 2 ^ 4000 := hq
      generalize 2 ^ 4000 = big at h2
      omega
    have gI : (g : Int) ≠ 0 := by omega
    have cop : Nat.gcd a0.natAbs b0.natAbs = 1 := by
      rw [Int.natAbs_mul, Int.natAbs_mul, Int.natAbs_natCast, Nat.gcd_mul_left] at hgd
      have : g * Nat.gcd a0.natAbs b0.natAbs = g * 1 := by omega
      exact Nat.eq_of_mul_eq_mul_left (by omega) this
    have gp : (0 : Int) < g := by omega
    by_cases hn : (g : Int) * b0 < 0
    · have hb : b0 < 0 := by
        rcases Int.lt_or_le b0 0 with z | z
        · exact z
        · have := Int.mul_nonneg (show (0 : Int) ≤ g by omega) z
          omega
      have gn : (-(g : Int)) ≠ 0 := by omega
      have gs' : (-(g : Int)).natAbs < 2 ^ 4000 := by rw [Int.natAbs_neg]; exact gs
      have e1 : ((g : Int) * a0).fdiv (-(g : Int)) = -a0 := by
        rw [show (g : Int) * a0 = -(g : Int) * -a0 by rw [Int.neg_mul_neg]]
        exact Int.mul_fdiv_cancel_left _ gn
      have e2 : ((g : Int) * b0).fdiv (-(g : Int)) = -b0 := by
        rw [show (g : Int) * b0 = -(g : Int) * -b0 by rw [Int.neg_mul_neg]]
        exact Int.mul_fdiv_cancel_left _ gn
      refine ⟨-a0, -b0, -g, .inr ⟨by omega, by rw [Int.natAbs_neg, Int.natAbs_neg]; exact cop⟩, gn, by rw [Int.neg_mul_neg, Int.mul_comm], by rw [Int.neg_mul_neg, Int.mul_comm], ?_⟩
      rw [frac_down hg gI hn (sp gs' gn _) (sp gs' gn _), e1, e2]
    · have hb : 0 < b0 := by
        rcases Int.lt_or_le 0 b0 with z | z
        · exact z
        · have : b0 ≠ 0 := fun z => hq0 (by rw [z, Int.mul_zero])
          have := Int.mul_pos gp (show 0 < -b0 by omega)
          rw [Int.mul_neg] at this
          omega
      have e1 : ((g : Int) * a0).fdiv (g : Int) = a0 := Int.mul_fdiv_cancel_left _ gI
      have e2 : ((g : Int) * b0).fdiv (g : Int) = b0 := Int.mul_fdiv_cancel_left _ gI
      refine ⟨a0, b0, g, .inr ⟨hb, cop⟩, gI, Int.mul_comm _ _, Int.mul_comm _ _, ?_⟩
      rw [frac_up hg gI (by omega) (sp gs gI _) (sp gs gI _), e1, e2]
theorem isF_unique {a b c d : Int} (h1 : isF a b) (h2 : isF c d) (h : a * d = b * c) : a = c ∧ b = d := by
  rcases h1 with ⟨rfl, rfl⟩ | ⟨b0, g1⟩
  · rcases h2 with ⟨rfl, rfl⟩ | ⟨d0, g2⟩
    · exact ⟨rfl, rfl⟩
    · omega
  · rcases h2 with ⟨rfl, rfl⟩ | ⟨d0, g2⟩
    · omega
    · have e : a.natAbs * d.natAbs = b.natAbs * c.natAbs := by rw [← Int.natAbs_mul, ← Int.natAbs_mul, h]
      have x1 : b.natAbs ∣ d.natAbs := by
        have cop : Nat.Coprime b.natAbs a.natAbs := by rw [Nat.coprime_comm]; exact g1
        exact cop.dvd_of_dvd_mul_left ⟨c.natAbs, e⟩
      have x2 : d.natAbs ∣ b.natAbs := by
        have cop : Nat.Coprime d.natAbs c.natAbs := by rw [Nat.coprime_comm]; exact g2
        exact cop.dvd_of_dvd_mul_left ⟨a.natAbs, by rw [Nat.mul_comm c.natAbs, ← e, Nat.mul_comm]⟩
      have x3 := Nat.dvd_antisymm x1 x2
      have e2 : b = d := by omega
      subst e2
      rw [Int.mul_comm b c] at h
      exact ⟨Int.eq_of_mul_eq_mul_right (by omega) h, rfl⟩
theorem isF_same {a b p q g : Int} (e1 : p = a * g) (e2 : q = b * g) : a * q = b * p := by
  rw [e1, e2, ← Int.mul_assoc, ← Int.mul_assoc, Int.mul_comm a b]
/-- the fraction made of a fraction's numbers, or of others over one another alike -/
theorem fraction_of {a b p q : Int} (ha : isF a b) (h : ¬ (p = 0 ∧ q = 0)) (hp : Sm p) (hq : Sm q) (e : a * q = b * p) : f_fraction [.int p, .int q] = .ok (.val (.tuple [.int a, .int b])) := by
  obtain ⟨c, d, g, h1, g0, e1, e2, hf⟩ := fraction_ok h hp hq
  have : a * d = b * c := by
    have z : (a * d) * g = (b * c) * g := by
      rw [Int.mul_assoc, Int.mul_assoc, ← e1, ← e2]
      exact e
    exact Int.eq_of_mul_eq_mul_right g0 z
  obtain ⟨rfl, rfl⟩ := isF_unique ha h1 this
  exact hf
end DL

set_option Elab.async false
set_option maxRecDepth 100000
set_option maxHeartbeats 4000000
set_option exponentiation.threshold 5000
namespace DL
open PySem L2
/-! ### the program's turnings -/
namespace M4
def det (m : M4) : Int := m.a * m.d - m.b * m.c
def inv (m : M4) : M4 := (⟨m.d, -m.b, -m.c, m.a⟩ : M4).nrm
theorem det_mul (x y : M4) : (x.mul y).det = x.det * y.det := by
  unfold det mul
  dsimp only
  grind
theorem det_neg (m : M4) : m.neg.det = m.det := by
  unfold det neg
  dsimp only
  grind
theorem det_nrm (m : M4) : m.nrm.det = m.det := by
  unfold nrm
  split
  · exact det_neg m
  · rfl
theorem det_let (c : Nat) : (letM c).det = 1 := by
  unfold letM
  split
  · decide
  · split <;> decide
theorem det_tm {x y : M4} (hx : x.det = 1) (hy : y.det = 1) : (x.tm y).det = 1 := by
  unfold tm
  rw [det_nrm, det_mul, hx, hy]
  rfl
theorem det_inv {m : M4} (h : m.det = 1) : m.inv.det = 1 := by
  unfold inv
  rw [det_nrm]
  unfold det at *
  dsimp only
  grind
theorem nrm_eq (m : M4) : ∃ e : Int, (e = 1 ∨ e = -1) ∧ m.nrm = ⟨e * m.a, e * m.b, e * m.c, e * m.d⟩ := by
  unfold nrm
  split
  · exact ⟨-1, .inr rfl, by simp [neg]⟩
  · exact ⟨1, .inl rfl, by simp⟩
/-- in its form: not down -/
theorem nrm_up {m : M4} (h : m.det = 1) : ¬ m.nrm.down := by
  unfold nrm
  split
  · rename_i hd
    unfold down neg at *
    dsimp only
    intro z
    rcases hd with z1 | ⟨z1, z2⟩
    · omega
    · omega
  · assumption
theorem nrm_id {m : M4} (h : ¬ m.down) : m.nrm = m := if_neg h
theorem nrm_neg {m : M4} (h : m.det = 1) : m.neg.nrm = m.nrm := by
  have h0 : m.c ≠ 0 ∨ m.d ≠ 0 := by
    rcases Decidable.em (m.c = 0) with z | z
    · right
      intro z2
      unfold det at h
      rw [z, z2] at h
      simp at h
    · exact .inl z
  unfold nrm
  by_cases hd : m.down
  · have : ¬ m.neg.down := by
      unfold down neg at *
      dsimp only
      omega
    rw [if_pos hd, if_neg this]
  · have : m.neg.down := by
      unfold down neg at *
      dsimp only
      omega
    rw [if_neg hd, if_pos this]
    unfold neg
    simp
end M4
theorem trn_det (l : List Nat) : (trn l).det = 1 := by
  unfold trn
  have : ∀ (l : List Nat) (m : M4), m.det = 1 → (l.foldl (fun m c => m.tm (letM c)) m).det = 1 := by
    intro l
    induction l with
    | nil => exact fun m h => h
    | cons c l ih => exact fun m h => ih _ (M4.det_tm h (M4.det_let c))
  exact this l M4.one (by decide)
theorem trn_up (l : List Nat) : ¬ (trn l).down := by
  unfold trn
  have : ∀ (l : List Nat) (m : M4), m.det = 1 → ¬ m.down → ¬ (l.foldl (fun m c => m.tm (letM c)) m).down := by
    intro l
    induction l with
    | nil => exact fun m _ h => h
    | cons c l ih => exact fun m h _ => ih _ (M4.det_tm h (M4.det_let c)) (M4.nrm_up (by rw [M4.det_mul, h, M4.det_let]; rfl))
  exact this l M4.one (by decide) (by decide)
def t_turning : M Fl := seqM (ifS (tcmp fNe (bin fSub (bin fMulI (getM 0) (getM 3)) (bin fMulI (getM 1) (getM 2))) (cst (.int 1))) (raiseM "NoTurning") (nilS))
  (seqM (ifS (DL.orM (tcmp fLt (getM 2) (cst (.int 0))) (DL.andM (tcmp fEq (getM 2) (cst (.int 0))) (tcmp fLt (getM 3) (cst (.int 0))))) (retS (tupM (argC (bin fSub (cst (.int 0)) (getM 0)) (argC (bin fSub (cst (.int 0)) (getM 1)) (argC (bin fSub (cst (.int 0)) (getM 2)) (argC (bin fSub (cst (.int 0)) (getM 3)) (argN))))))) (nilS))
  (retS (tupM (argC (getM 0) (argC (getM 1) (argC (getM 2) (argC (getM 3) (argN))))))))
def ft_turning : List D → FO := runF 0 t_turning
theorem tturning_ok {a b c d : Int} {k : Nat} (hm : (⟨a, b, c, d⟩ : M4).lt k) (hk : k + k < 1000000) (h : a * d - b * c = 1) : ft_turning [.int a, .int b, .int c, .int d] = .ok (.val (⟨a, b, c, d⟩ : M4).nrm.D) := by
  obtain ⟨h1, h2, h3, h4⟩ := hm
  dsimp only at h1 h2 h3 h4
  have m1 := bMul_of k k h1 h4 hk
  have m2 := bMul_of k k h2 h3 hk
  unfold ft_turning t_turning
  rw [run_eq]
  by_cases c0 : c < 0
  · have e : (⟨a, b, c, d⟩ : M4).nrm = ⟨-a, -b, -c, -d⟩ := if_pos (.inl c0)
    rw [e]
    simp [m1, m2, h, c0, M4.D]
  · by_cases z : c = 0
    · by_cases d0 : d < 0
      · have e : (⟨a, b, c, d⟩ : M4).nrm = ⟨-a, -b, -c, -d⟩ := if_pos (.inr ⟨z, d0⟩)
        rw [e]
        subst z
        have h' : a * d = 1 := by simpa using h
        simp [m1, m2, h', d0, M4.D]
      · have e : (⟨a, b, c, d⟩ : M4).nrm = ⟨a, b, c, d⟩ := if_neg (fun y => y.elim c0 (fun y => d0 y.2))
        rw [e]
        subst z
        have h' : a * d = 1 := by simpa using h
        simp [m1, m2, h', d0, M4.D]
    · have e : (⟨a, b, c, d⟩ : M4).nrm = ⟨a, b, c, d⟩ := if_neg (fun y => y.elim c0 (fun y => z y.1))
      rw [e]
      simp [m1, m2, h, c0, z, M4.D]
theorem tturning_no {a b c d : Int} {k : Nat} (hm : (⟨a, b, c, d⟩ : M4).lt k) (hk : k + k < 1000000) (h : a * d - b * c ≠ 1) : ft_turning [.int a, .int b, .int c, .int d] = .exc ⟨"NoTurning", []⟩ := by
  obtain ⟨h1, h2, h3, h4⟩ := hm
  dsimp only at h1 h2 h3 h4
  have m1 := bMul_of k k h1 h4 hk
  have m2 := bMul_of k k h2 h3 hk
  unfold ft_turning t_turning
  rw [run_eq]
  simp [m1, m2, h]
def t_times : M Fl := seqM (asgS (asgSeq 4 (asgCons (asgR 2) (asgCons (asgR 3) (asgCons (asgR 4) (asgCons (asgR 5) (asgNil)))))) (getM 0))
  (seqM (asgS (asgSeq 4 (asgCons (asgR 6) (asgCons (asgR 7) (asgCons (asgR 8) (asgCons (asgR 9) (asgNil)))))) (getM 1))
  (retS (callF ft_turning (argC (bin fAdd (bin fMulI (getM 2) (getM 6)) (bin fMulI (getM 3) (getM 8))) (argC (bin fAdd (bin fMulI (getM 2) (getM 7)) (bin fMulI (getM 3) (getM 9))) (argC (bin fAdd (bin fMulI (getM 4) (getM 6)) (bin fMulI (getM 5) (getM 8))) (argC (bin fAdd (bin fMulI (getM 4) (getM 7)) (bin fMulI (getM 5) (getM 9))) (argN))))))))
def ft_times : List D → FO := runF 8 t_times
theorem ttimes_ok {x y : M4} {j k : Nat} (hx : x.lt j) (hy : y.lt k) (hjk : j + k < 400000) (dx : x.det = 1) (dy : y.det = 1) : ft_times [x.D, y.D] = .ok (.val (x.tm y).D) := by
  have hm := M4.mul_lt hx hy
  have hd : (x.mul y).det = 1 := by rw [M4.det_mul, dx, dy]; rfl
  obtain ⟨x1, x2, x3, x4⟩ := x
  obtain ⟨y1, y2, y3, y4⟩ := y
  obtain ⟨a1, a2, a3, a4⟩ := hx
  obtain ⟨b1, b2, b3, b4⟩ := hy
  dsimp only at a1 a2 a3 a4 b1 b2 b3 b4
  have q : j + k < 1000000 := by omega
  have m1 := bMul_of j k a1 b1 q
  have m2 := bMul_of j k a2 b3 q
  have m3 := bMul_of j k a1 b2 q
  have m4 := bMul_of j k a2 b4 q
  have m5 := bMul_of j k a3 b1 q
  have m6 := bMul_of j k a4 b3 q
  have m7 := bMul_of j k a3 b2 q
  have m8 := bMul_of j k a4 b4 q
  have e := tturning_ok (a := x1 * y1 + x2 * y3) (b := x1 * y2 + x2 * y4) (c := x3 * y1 + x4 * y3) (d := x3 * y2 + x4 * y4) hm (by omega) hd
  unfold ft_times t_times M4.D
  rw [run_eq]
  have sD : ∀ m : M4, scalD m.D = false := fun _ => rfl
  simp [m1, m2, m3, m4, m5, m6, m7, m8, e, sD]
  rfl
def t_contrary : M Fl := seqM (asgS (asgSeq 4 (asgCons (asgR 1) (asgCons (asgR 2) (asgCons (asgR 3) (asgCons (asgR 4) (asgNil)))))) (getM 0))
  (retS (callF ft_turning (argC (getM 4) (argC (bin fSub (cst (.int 0)) (getM 2)) (argC (bin fSub (cst (.int 0)) (getM 3)) (argC (getM 1) (argN)))))))
def ft_contrary : List D → FO := runF 4 t_contrary
theorem tcontrary_ok {x : M4} {k : Nat} (hx : x.lt k) (hk : k < 400000) (dx : x.det = 1) : ft_contrary [x.D] = .ok (.val x.inv.D) := by
  obtain ⟨a, b, c, d⟩ := x
  have h1 : (⟨d, -b, -c, a⟩ : M4).lt k := by
    obtain ⟨h1, h2, h3, h4⟩ := hx
    exact ⟨h4, by simpa using h2, by simpa using h3, h1⟩
  have e := tturning_ok (a := d) (b := -b) (c := -c) (d := a) h1 (by omega) (by
    unfold M4.det at dx
    dsimp only at dx
    grind)
  unfold ft_contrary t_contrary M4.D
  rw [run_eq]
  have sD : ∀ m : M4, scalD m.D = false := fun _ => rfl
  simp [e, sD]
  rfl
theorem M4.inv_lt {x : M4} {k : Nat} (hx : x.lt k) : x.inv.lt k := by
  obtain ⟨h1, h2, h3, h4⟩ := hx
  exact M4.nrm_lt ⟨h4, by simpa using h2, by simpa using h3, h1⟩
/-! ### points led -/
abbrev pD (p q : Int) : D := .tuple [.int p, .int q]
noncomputable def t_led : M Fl := seqM (asgS (asgSeq 4 (asgCons (asgR 2) (asgCons (asgR 3) (asgCons (asgR 4) (asgCons (asgR 5) (asgNil)))))) (getM 0))
  (seqM (asgS (asgSeq 2 (asgCons (asgR 6) (asgCons (asgR 7) (asgNil)))) (getM 1))
  (retS (callF f_fraction (argC (bin fAdd (bin fMulI (getM 2) (getM 6)) (bin fMulI (getM 3) (getM 7))) (argC (bin fAdd (bin fMulI (getM 4) (getM 6)) (bin fMulI (getM 5) (getM 7))) (argN))))))
noncomputable def ft_led : List D → FO := runF 6 t_led
/-- the two numbers before they are shortened -/
def M4.up (m : M4) (p q : Int) : Int := m.a * p + m.b * q
def M4.lo (m : M4) (p q : Int) : Int := m.c * p + m.d * q
theorem lin_lt {a b p q : Int} {j k : Nat} (ha : a.natAbs < 2 ^ j) (hb : b.natAbs < 2 ^ j) (hp : p.natAbs < 2 ^ k) (hq : q.natAbs < 2 ^ k) : (a * p + b * q).natAbs < 2 ^ (j + k + 1) := M4.pw_add (M4.pw_mul ha hp) (M4.pw_mul hb hq)
theorem led_eval {f : List D → FO} {m : M4} {p q s t : Int} {j k : Nat} (hm : m.lt j) (hp : p.natAbs < 2 ^ k) (hq : q.natAbs < 2 ^ k) (hjk : j + k < 1000000) (hf : f [.int (m.up p q), .int (m.lo p q)] = .ok (.val (pD s t))) :
    runF 6 (seqM (asgS (asgSeq 4 (asgCons (asgR 2) (asgCons (asgR 3) (asgCons (asgR 4) (asgCons (asgR 5) (asgNil)))))) (getM 0))
  (seqM (asgS (asgSeq 2 (asgCons (asgR 6) (asgCons (asgR 7) (asgNil)))) (getM 1))
  (retS (callF f (argC (bin fAdd (bin fMulI (getM 2) (getM 6)) (bin fMulI (getM 3) (getM 7))) (argC (bin fAdd (bin fMulI (getM 4) (getM 6)) (bin fMulI (getM 5) (getM 7))) (argN))))))) [m.D, pD p q] = .ok (.val (pD s t)) := by
  obtain ⟨a, b, c, d⟩ := m
  obtain ⟨h1, h2, h3, h4⟩ := hm
  dsimp only at h1 h2 h3 h4
  have m1 := bMul_of j k h1 hp hjk
  have m2 := bMul_of j k h2 hq hjk
  have m3 := bMul_of j k h3 hp hjk
  have m4 := bMul_of j k h4 hq hjk
  simp only [M4.up, M4.lo] at hf
  unfold M4.D
  rw [run_eq]
  simp [m1, m2, m3, m4, hf]
/-- led by a turning: never nought over nought -/
theorem led_nz {m : M4} {p q : Int} (hd : m.det = 1) (h : ¬ (p = 0 ∧ q = 0)) : ¬ (m.up p q = 0 ∧ m.lo p q = 0) := fun ⟨h1, h2⟩ => h (by
  unfold M4.up at h1
  unfold M4.lo at h2
  unfold M4.det at hd
  constructor
  · have : m.d * (m.a * p + m.b * q) - m.b * (m.c * p + m.d * q) = (m.a * m.d - m.b * m.c) * p := by grind
    rw [h1, h2, hd] at this
    omega
  · have : m.a * (m.c * p + m.d * q) - m.c * (m.a * p + m.b * q) = (m.a * m.d - m.b * m.c) * q := by grind
    rw [h1, h2, hd] at this
    omega)
theorem isF_nz {p q : Int} (h : isF p q) : ¬ (p = 0 ∧ q = 0) := by
  rcases h with ⟨rfl, rfl⟩ | ⟨h1, _⟩
  · omega
  · omega
/-- the law's own fraction -/
noncomputable def l_made : M Fl := seqM (setS 2 (callB fAbs (argC (getM 0) (argN))))
  (seqM (setS 3 (callB fAbs (argC (getM 1) (argN))))
  (seqM (whileC (tcmp fGt (getM 3) (cst (.int 0))) (parS [2, 3] (argC (getM 3) (argC (bin fMod (getM 2) (getM 3)) (argN)))))
  (seqM (ifS (tcmp fEq (getM 1) (cst (.int 0))) (retS (tupM (argC (cst (.int 1)) (argC (cst (.int 0)) (argN))))) (nilS))
  (seqM (ifS (tcmp fLt (getM 1) (cst (.int 0))) (setS 2 (bin fSub (cst (.int 0)) (getM 2))) (nilS))
  (retS (tupM (argC (bin fDiv (getM 0) (getM 2)) (argC (bin fDiv (getM 1) (getM 2)) (argN)))))))))
noncomputable def fl_made : List D → FO := runF 2 l_made
theorem gcd_loop2 (P Q : Option T) : ∀ (b a : Nat), ∃ x : Int, whileC (tcmp fGt (getM 3) (cst (.int 0))) (parS [2, 3] (argC (getM 3) (argC (bin fMod (getM 2) (getM 3)) (argN)))) [P, Q, iD a, iD b] = .ok .nx [P, Q, iD (Nat.gcd a b), x |> iD] := fun b => by
  induction b using Nat.strongRecOn with
  | ind b ih =>
    intro a
    rw [while_ap]
    by_cases hb : b = 0
    · subst hb
      refine ⟨0, ?_⟩
      simp [iD]
    · have h0 : (0 : Int) < b := by omega
      have h1 : (b : Int) ≠ 0 := by omega
      obtain ⟨x, hx⟩ := ih (a % b) (Nat.mod_lt _ (by omega)) b
      have e : ((a : Int).fmod b) = ((a % b : Nat) : Int) := by
        rw [Int.fmod_eq_emod_of_nonneg _ (by omega)]
        exact (Int.natCast_emod a b).symm
      have g : Nat.gcd b (a % b) = Nat.gcd a b := by rw [Nat.gcd_comm a b, Nat.gcd_rec b a, Nat.gcd_comm]
      refine ⟨x, ?_⟩
      rw [g] at hx
      simp only [iD, Int.natCast_emod] at hx ⊢
      simp [show 0 < b by omega, hb, e, hx]
theorem made_zero {p : Int} : fl_made [.int p, .int 0] = .ok (.val (pD 1 0)) := by
  unfold fl_made l_made
  rw [run_eq]
  obtain ⟨x, hx⟩ := gcd_loop2 (iD p) (iD 0) 0 p.natAbs
  simp only [iD, Int.natCast_zero] at hx
  simp [hx]
theorem made_up {p q g : Int} (hg : ((Nat.gcd p.natAbs q.natAbs : Nat) : Int) = g) (q0 : 0 < q) (d1 : bDivZ p g = true) (d2 : bDivZ q g = true) : fl_made [.int p, .int q] = .ok (.val (pD (p.fdiv g) (q.fdiv g))) := by
  have h1 : q ≠ 0 := by omega
  have h2 : ¬ q < 0 := by omega
  unfold fl_made l_made
  rw [run_eq]
  obtain ⟨x, hx⟩ := gcd_loop2 (iD p) (iD q) q.natAbs p.natAbs
  simp only [iD, hg] at hx
  simp [hx, h1, h2, d1, d2]
theorem made_down {p q g : Int} (hg : ((Nat.gcd p.natAbs q.natAbs : Nat) : Int) = g) (q0 : q < 0) (d1 : bDivZ p (-g) = true) (d2 : bDivZ q (-g) = true) : fl_made [.int p, .int q] = .ok (.val (pD (p.fdiv (-g)) (q.fdiv (-g)))) := by
  have h1 : q ≠ 0 := by omega
  unfold fl_made l_made
  rw [run_eq]
  obtain ⟨x, hx⟩ := gcd_loop2 (iD p) (iD q) q.natAbs p.natAbs
  simp only [iD, hg] at hx
  simp [hx, h1, q0, d1, d2]
/-- they are the same -/
theorem made_eq {p q : Int} (h : ¬ (p = 0 ∧ q = 0)) (hp : Sm p) (hq : Sm q) : fl_made [.int p, .int q] = f_fraction [.int p, .int q] := by
  have sp : ∀ {i : Int}, i.natAbs < 2 ^ 4000 → i ≠ 0 → ∀ j, bDivZ j i = true := fun h h0 j => bDivZ_of 4000 h0 h (by omega)
  by_cases q0 : q = 0
  · subst q0
    obtain ⟨a, b, g, hF, g0, e1, e2, hf⟩ := fraction_ok h hp hq
    have b0 : b = 0 := (Int.mul_eq_zero.mp e2.symm).resolve_right g0
    subst b0
    rcases hF with ⟨_, rfl⟩ | ⟨z, _⟩
    · rw [made_zero, hf]
    · omega
  · have hg := common_ok p q
    have g0 : Nat.gcd p.natAbs q.natAbs ≠ 0 := fun z => h (by
      obtain ⟨z1, z2⟩ := Nat.gcd_eq_zero_iff.mp z
      exact ⟨Int.natAbs_eq_zero.mp z1, Int.natAbs_eq_zero.mp z2⟩)
    have gs : ((Nat.gcd p.natAbs q.natAbs : Nat) : Int).natAbs < 2 ^ 4000 := by
      rw [Int.natAbs_natCast]
      exact Nat.lt_of_le_of_lt (Nat.le_of_dvd (by omega) (Nat.gcd_dvd_right _ _)) hq
    have gI : ((Nat.gcd p.natAbs q.natAbs : Nat) : Int) ≠ 0 := by omega
    rcases Int.lt_or_gt_of_ne q0 with z | z
    · have gn : -((Nat.gcd p.natAbs q.natAbs : Nat) : Int) ≠ 0 := by omega
      have gs' : (-((Nat.gcd p.natAbs q.natAbs : Nat) : Int)).natAbs < 2 ^ 4000 := by rw [Int.natAbs_neg]; exact gs
      rw [made_down rfl z (sp gs' gn _) (sp gs' gn _), frac_down hg gI z (sp gs' gn _) (sp gs' gn _)]
    · rw [made_up rfl z (sp gs gI _) (sp gs gI _), frac_up hg gI z (sp gs gI _) (sp gs gI _)]
noncomputable def l_led : M Fl := seqM (asgS (asgSeq 4 (asgCons (asgR 2) (asgCons (asgR 3) (asgCons (asgR 4) (asgCons (asgR 5) (asgNil)))))) (getM 0))
  (seqM (asgS (asgSeq 2 (asgCons (asgR 6) (asgCons (asgR 7) (asgNil)))) (getM 1))
  (retS (callF fl_made (argC (bin fAdd (bin fMulI (getM 2) (getM 6)) (bin fMulI (getM 3) (getM 7))) (argC (bin fAdd (bin fMulI (getM 4) (getM 6)) (bin fMulI (getM 5) (getM 7))) (argN))))))
noncomputable def fl_led : List D → FO := runF 6 l_led
/-- the fraction to which m leads p over q -/
def Leads (m : M4) (p q s t : Int) : Prop := isF s t ∧ s * m.lo p q = t * m.up p q
theorem led_ok {m : M4} {p q s t : Int} {j k : Nat} (hl : Leads m p q s t) (hd : m.det = 1) (hn : ¬ (p = 0 ∧ q = 0)) (hm : m.lt j) (hp : p.natAbs < 2 ^ k) (hq : q.natAbs < 2 ^ k) (hjk : j + k < 3000) :
    ft_led [m.D, pD p q] = .ok (.val (pD s t)) ∧ fl_led [m.D, pD p q] = .ok (.val (pD s t)) := by
  have b : 2 ^ (j + k + 1) ≤ 2 ^ 4000 := Nat.pow_le_pow_right (by decide) (by omega)
  have su : Sm (m.up p q) := Nat.lt_of_lt_of_le (lin_lt hm.1 hm.2.1 hp hq) b
  have sl : Sm (m.lo p q) := Nat.lt_of_lt_of_le (lin_lt hm.2.2.1 hm.2.2.2 hp hq) b
  have nz := led_nz hd hn
  have e := fraction_of hl.1 nz su sl hl.2
  exact ⟨led_eval hm hp hq (by omega) e, led_eval hm hp hq (by omega) ((made_eq nz su sl).trans e)⟩
theorem leads_ex {m : M4} {p q : Int} {j k : Nat} (hd : m.det = 1) (hn : ¬ (p = 0 ∧ q = 0)) (hm : m.lt j) (hp : p.natAbs < 2 ^ k) (hq : q.natAbs < 2 ^ k) (hjk : j + k < 3000) :
    ∃ s t g, Leads m p q s t ∧ g ≠ 0 ∧ m.up p q = s * g ∧ m.lo p q = t * g ∧ s.natAbs < 2 ^ (j + k + 1) ∧ t.natAbs < 2 ^ (j + k + 1) := by
  have b : 2 ^ (j + k + 1) ≤ 2 ^ 4000 := Nat.pow_le_pow_right (by decide) (by omega)
  have lu := lin_lt hm.1 hm.2.1 hp hq
  have ll := lin_lt hm.2.2.1 hm.2.2.2 hp hq
  obtain ⟨s, t, g, hF, g0, e1, e2, hf⟩ := fraction_ok (led_nz hd hn) (Nat.lt_of_lt_of_le lu b) (Nat.lt_of_lt_of_le ll b)
  have gn : g.natAbs ≠ 0 := fun z => g0 (Int.natAbs_eq_zero.mp z)
  refine ⟨s, t, g, ⟨hF, isF_same e1 e2⟩, g0, e1, e2, ?_, ?_⟩
  · have : (m.up p q).natAbs = s.natAbs * g.natAbs := by rw [e1, Int.natAbs_mul]
    exact Nat.lt_of_le_of_lt (by rw [show (m.a * p + m.b * q) = m.up p q from rfl, this]; exact Nat.le_mul_of_pos_right _ (by omega)) lu
  · have : (m.lo p q).natAbs = t.natAbs * g.natAbs := by rw [e2, Int.natAbs_mul]
    exact Nat.lt_of_le_of_lt (by rw [show (m.c * p + m.d * q) = m.lo p q from rfl, this]; exact Nat.le_mul_of_pos_right _ (by omega)) ll
end DL

set_option Elab.async false
set_option maxRecDepth 100000
set_option maxHeartbeats 4000000
set_option exponentiation.threshold 5000
namespace DL
open PySem L2
theorem eqD_p2 (a b c d a' b' c' d' : Int) : eqD (.tuple [pD a b, pD c d]) (.tuple [pD a' b', pD c' d']) = some (decide (a = a' ∧ b = b' ∧ c = c' ∧ d = d')) := by
  have e : eqS (.tuple [pD a b, pD c d]) (.tuple [pD a' b', pD c' d']) = none := rfl
  have s : ∀ a b c d : Int, SeqAt.shaped (.tuple [pD a b, pD c d]) = true := fun a b c d => by
    simp [SeqAt.shaped, PyData.canLay0, PyData.canLayAll0, PyData.depth, PyData.depthAll]
  unfold eqD
  rw [e]
  simp only [s, Bool.and_self, if_true, PyData.eqv, PyData.eqvAll, Bool.and_true]
  congr 1
  by_cases h1 : a = a' <;> by_cases h2 : b = b' <;> by_cases h3 : c = c' <;> by_cases h4 : d = d' <;> simp [h1, h2, h3, h4]
@[simp] theorem fEq_p2 (a b c d a' b' c' d' : Int) : fEq (.tuple [.tuple [.int a, .int b], .tuple [.int c, .int d]]) (.tuple [.tuple [.int a', .int b'], .tuple [.int c', .int d']]) = some (.val (.bool (decide (a = a' ∧ b = b' ∧ c = c' ∧ d = d')))) := by
  unfold fEq
  rw [eqD_p2]
  rfl
@[simp] theorem fNe_p2 (a b c d a' b' c' d' : Int) : fNe (.tuple [.tuple [.int a, .int b], .tuple [.int c, .int d]]) (.tuple [.tuple [.int a', .int b'], .tuple [.int c', .int d']]) = some (.val (.bool (!decide (a = a' ∧ b = b' ∧ c = c' ∧ d = d')))) := by
  unfold fNe
  rw [eqD_p2]
  rfl
/-! ### neighbours -/
def t_cross : M Fl := retS (bin fSub (bin fMulI (bin fIx (getM 0) (cst (.int 0))) (bin fIx (getM 1) (cst (.int 1)))) (bin fMulI (bin fIx (getM 0) (cst (.int 1))) (bin fIx (getM 1) (cst (.int 0)))))
def ft_cross : List D → FO := runF 0 t_cross
def t_near : M Fl := retS (bin fEq (callB fAbs (argC (callF ft_cross (argC (getM 0) (argC (getM 1) (argN)))) (argN))) (cst (.int 1)))
def ft_near : List D → FO := runF 0 t_near
def t_between : M Fl := seqM (ifS (notT (tst (callF ft_near (argC (getM 0) (argC (getM 1) (argN)))))) (raiseM "NoTurning") (nilS))
  (seqM (setS 2 (callF ft_cross (argC (getM 0) (argC (getM 1) (argN)))))
  (retS (callF ft_turning (argC (bin fIx (getM 0) (cst (.int 0))) (argC (bin fMulI (getM 2) (bin fIx (getM 1) (cst (.int 0)))) (argC (bin fIx (getM 0) (cst (.int 1))) (argC (bin fMulI (getM 2) (bin fIx (getM 1) (cst (.int 1)))) (argN))))))))
def ft_between : List D → FO := runF 1 t_between
theorem cross_ok {p q s t : Int} {k : Nat} (hp : p.natAbs < 2 ^ k) (hq : q.natAbs < 2 ^ k) (hs : s.natAbs < 2 ^ k) (ht : t.natAbs < 2 ^ k) (hk : k < 400000) : ft_cross [pD p q, pD s t] = .ok (.val (.int (p * t - q * s))) := by
  have m1 := bMul_of k k hp ht (by omega)
  have m2 := bMul_of k k hq hs (by omega)
  unfold ft_cross t_cross
  rw [run_eq]
  simp [m1, m2]
theorem near_ok {p q s t : Int} {k : Nat} (hp : p.natAbs < 2 ^ k) (hq : q.natAbs < 2 ^ k) (hs : s.natAbs < 2 ^ k) (ht : t.natAbs < 2 ^ k) (hk : k < 400000) : ft_near [pD p q, pD s t] = .ok (.val (.bool (decide (((p * t - q * s).natAbs : Int) = 1)))) := by
  have e := cross_ok hp hq hs ht hk
  unfold ft_near t_near
  rw [run_eq]
  simp [e]
theorem between_ok {p q s t : Int} {k : Nat} (hp : p.natAbs < 2 ^ k) (hq : q.natAbs < 2 ^ k) (hs : s.natAbs < 2 ^ k) (ht : t.natAbs < 2 ^ k) (hk : k < 400000) {x : Int} (hx : p * t - q * s = x) (h1 : x = 1 ∨ x = -1) : ft_between [pD p q, pD s t] = .ok (.val (⟨p, x * s, q, x * t⟩ : M4).nrm.D) := by
  have e := cross_ok hp hq hs ht hk
  have n := near_ok hp hq hs ht hk
  rw [hx] at e n
  have h1' : (x.natAbs : Int) = 1 := by omega
  have k1 : 1 ≤ k := by
    rcases Nat.eq_zero_or_pos k with z | z
    · subst z
      have : p = 0 := by simpa using hp
      have : q = 0 := by simpa using hq
      subst_vars
      simp at h1'
    · exact z
  have lx : ∀ {y : Int}, y.natAbs < 2 ^ k → (x * y).natAbs < 2 ^ k := fun {y} h => by
    rw [Int.natAbs_mul]
    have : x.natAbs = 1 := by omega
    rw [this, Nat.one_mul]
    exact h
  have m1 : bMul x s = true := bMul_of 2 k (by omega) hs (by omega)
  have m2 : bMul x t = true := bMul_of 2 k (by omega) ht (by omega)
  have te := tturning_ok (a := p) (b := x * s) (c := q) (d := x * t) (k := k) ⟨hp, lx hs, hq, lx ht⟩ (by omega) (by
    have : p * (x * t) - x * s * q = x * (p * t - q * s) := by grind
    rw [this, hx]
    rcases h1 with rfl | rfl <;> rfl)
  unfold ft_between t_between
  rw [run_eq]
  simp [n, e, h1', m1, m2, te]
theorem between_no {p q s t : Int} {k : Nat} (hp : p.natAbs < 2 ^ k) (hq : q.natAbs < 2 ^ k) (hs : s.natAbs < 2 ^ k) (ht : t.natAbs < 2 ^ k) (hk : k < 400000) (h1 : ¬ ((p * t - q * s).natAbs : Int) = 1) : ft_between [pD p q, pD s t] = .exc ⟨"NoTurning", []⟩ := by
  have n := near_ok hp hq hs ht hk
  unfold ft_between t_between
  rw [run_eq]
  simp only [pD] at n
  simp [n, h1]
/-! ### edges -/
noncomputable def t_edge : M Fl := retS (tupM (argC (callF ft_led (argC (getM 0) (argC (cst (.tuple [(.int 1), (.int 0)])) (argN)))) (argC (callF ft_led (argC (getM 0) (argC (cst (.tuple [(.int 0), (.int 1)])) (argN)))) (argN))))
noncomputable def ft_edge : List D → FO := runF 0 t_edge
theorem unit_of {a d : Int} (h : a * d = 1) : (a = 1 ∧ d = 1) ∨ (a = -1 ∧ d = -1) := by
  have e : a.natAbs * d.natAbs = 1 := by rw [← Int.natAbs_mul, h]; rfl
  have h1 : a.natAbs = 1 := Nat.dvd_one.mp ⟨_, e.symm⟩
  have h2 : d.natAbs = 1 := Nat.dvd_one.mp ⟨_, (Nat.mul_comm _ _).trans e |>.symm⟩
  rcases Int.natAbs_eq a with z | z
  · rw [h1] at z
    rw [z] at h
    left
    constructor
    · omega
    · have : (1 : Int) * d = 1 := h
      omega
  · rw [h1] at z
    rw [z] at h
    right
    constructor
    · omega
    · have : -(1 : Int) * d = 1 := h
      omega
theorem cop_of {a b c d : Int} (h : a * d - b * c = 1) : Nat.gcd a.natAbs c.natAbs = 1 := by
  have d1 : ((Nat.gcd a.natAbs c.natAbs : Nat) : Int) ∣ a := Int.ofNat_dvd_left.mpr (Nat.gcd_dvd_left _ _)
  have d2 : ((Nat.gcd a.natAbs c.natAbs : Nat) : Int) ∣ c := Int.ofNat_dvd_left.mpr (Nat.gcd_dvd_right _ _)
  have d3 : ((Nat.gcd a.natAbs c.natAbs : Nat) : Int) ∣ 1 := by
    rw [← h]
    exact Int.dvd_sub (Int.dvd_mul_of_dvd_left d1) (Int.dvd_mul_of_dvd_right d2)
  have := Int.ofNat_dvd_left.mp d3
  exact Nat.dvd_one.mp this
theorem edge_ok {m : M4} {k : Nat} (hm : m.lt k) (hk : k < 1000) (hd : m.det = 1) (hn : ¬ m.down) : ∃ e : Int, (e = 1 ∨ e = -1) ∧ isF m.a m.c ∧ isF (e * m.b) (e * m.d) ∧ ft_edge [m.D] = .ok (.val (.tuple [pD m.a m.c, pD (e * m.b) (e * m.d)])) ∧
    fl_led [m.D, pD 1 0] = .ok (.val (pD m.a m.c)) ∧ fl_led [m.D, pD 0 1] = .ok (.val (pD (e * m.b) (e * m.d))) := by
  have hd' : m.a * m.d - m.b * m.c = 1 := hd
  have c0 : 0 ≤ m.c := by
    unfold M4.down at hn
    omega
  have F1 : isF m.a m.c := by
    by_cases z : m.c = 0
    · rw [z] at hd'
      simp only [Int.mul_zero, Int.sub_zero] at hd'
      have d0 : 0 ≤ m.d := by
        unfold M4.down at hn
        omega
      rcases unit_of hd' with ⟨h1, h2⟩ | ⟨h1, h2⟩
      · exact .inl ⟨z, h1⟩
      · omega
    · exact .inr ⟨by omega, cop_of hd'⟩
  have hbd : m.d * m.a - m.c * m.b = 1 := by
    rw [← hd']
    grind
  have F2 : ∃ e : Int, (e = 1 ∨ e = -1) ∧ isF (e * m.b) (e * m.d) := by
    have g : Nat.gcd m.b.natAbs m.d.natAbs = 1 := by
      rw [Nat.gcd_comm]
      exact cop_of hbd
    rcases Int.lt_trichotomy m.d 0 with z | z | z
    · exact ⟨-1, .inr rfl, .inr ⟨by omega, by simpa using g⟩⟩
    · rw [z] at hd'
      have hbc : m.b * m.c = -1 := by
        simp only [Int.mul_zero] at hd'
        omega
      have hbc' : (-m.b) * m.c = 1 := by rw [Int.neg_mul, hbc]; rfl
      rcases unit_of hbc' with ⟨h1, h2⟩ | ⟨h1, h2⟩
      · exact ⟨-1, .inr rfl, .inl ⟨by rw [z]; rfl, by omega⟩⟩
      · omega
    · exact ⟨1, .inl rfl, .inr ⟨by omega, by simpa using g⟩⟩
  obtain ⟨e, he, F2⟩ := F2
  have L1 : Leads m 1 0 m.a m.c := ⟨F1, by unfold M4.lo M4.up; grind⟩
  have L2 : Leads m 0 1 (e * m.b) (e * m.d) := ⟨F2, by unfold M4.lo M4.up; grind⟩
  obtain ⟨a1, a2⟩ := led_ok (k := 2) L1 hd (by omega) hm (by decide) (by decide) (by omega)
  obtain ⟨b1, b2⟩ := led_ok (k := 2) L2 hd (by omega) hm (by decide) (by decide) (by omega)
  refine ⟨e, he, F1, F2, ?_, a2, b2⟩
  unfold ft_edge t_edge
  rw [run_eq]
  simp only [pD] at a1 b1
  simp [a1, b1]
theorem M4.ext' {x y : M4} : (x.a = y.a ∧ x.b = y.b ∧ x.c = y.c ∧ x.d = y.d) ↔ x = y := by
  obtain ⟨a, b, c, d⟩ := x
  obtain ⟨a', b', c', d'⟩ := y
  simp
@[simp] theorem fEq_D (x y : M4) : fEq x.D y.D = some (.val (.bool (decide (x = y)))) := by
  unfold M4.D
  rw [fEq_t4]
  simp only [M4.ext']
@[simp] theorem fNe_D (x y : M4) : fNe x.D y.D = some (.val (.bool (!decide (x = y)))) := by
  unfold M4.D
  rw [fNe_t4]
  simp only [M4.ext']
@[simp] theorem scalD_D (m : M4) : scalD m.D = false := (rfl)
theorem inv_leads {m : M4} {p q s t g : Int} (hd : m.det = 1) (hF : isF p q) (g0 : g ≠ 0) (eu : m.up p q = s * g) (el : m.lo p q = t * g) : Leads m.inv s t p q := by
  refine ⟨hF, ?_⟩
  obtain ⟨e, he, en⟩ := M4.nrm_eq ⟨m.d, -m.b, -m.c, m.a⟩
  unfold M4.inv M4.lo M4.up
  rw [en]
  dsimp only
  unfold M4.up at eu
  unfold M4.lo at el
  unfold M4.det at hd
  have h1 : (m.d * s - m.b * t) * g = p := by
    have : (m.d * s - m.b * t) * g = m.d * (s * g) - m.b * (t * g) := by grind
    rw [this, ← eu, ← el]
    have : m.d * (m.a * p + m.b * q) - m.b * (m.c * p + m.d * q) = (m.a * m.d - m.b * m.c) * p := by grind
    rw [this, hd, Int.one_mul]
  have h2 : (m.a * t - m.c * s) * g = q := by
    have : (m.a * t - m.c * s) * g = m.a * (t * g) - m.c * (s * g) := by grind
    rw [this, ← eu, ← el]
    have : m.a * (m.c * p + m.d * q) - m.c * (m.a * p + m.b * q) = (m.a * m.d - m.b * m.c) * q := by grind
    rw [this, hd, Int.one_mul]
  have h3 : (p * (m.a * t - m.c * s)) * g = (q * (m.d * s - m.b * t)) * g := by
    rw [Int.mul_assoc, h2, Int.mul_assoc, h1, Int.mul_comm]
  have h4 := Int.eq_of_mul_eq_mul_right g0 h3
  have e1 : p * (e * -m.c * s + e * m.a * t) = e * (p * (m.a * t - m.c * s)) := by grind
  have e2 : q * (e * m.d * s + e * -m.b * t) = e * (q * (m.d * s - m.b * t)) := by grind
  rw [e1, e2, h4]
theorem tm_leads {x y : M4} {p q s t g s' t' : Int} (eu : x.up p q = s * g) (el : x.lo p q = t * g) (L : Leads y s t s' t') : Leads (y.tm x) p q s' t' := by
  refine ⟨L.1, ?_⟩
  obtain ⟨e, he, en⟩ := M4.nrm_eq (y.mul x)
  have l := L.2
  unfold M4.tm M4.lo M4.up
  rw [en]
  unfold M4.lo M4.up at l
  unfold M4.up at eu
  unfold M4.lo at el
  unfold M4.mul
  dsimp only
  have e1 : s' * (e * (y.c * x.a + y.d * x.c) * p + e * (y.c * x.b + y.d * x.d) * q) = e * (s' * (y.c * (x.a * p + x.b * q) + y.d * (x.c * p + x.d * q))) := by grind
  have e2 : t' * (e * (y.a * x.a + y.b * x.c) * p + e * (y.a * x.b + y.b * x.d) * q) = e * (t' * (y.a * (x.a * p + x.b * q) + y.b * (x.c * p + x.d * q))) := by grind
  rw [e1, e2, eu, el]
  have e3 : s' * (y.c * (s * g) + y.d * (t * g)) = (s' * (y.c * s + y.d * t)) * g := by grind
  have e4 : t' * (y.a * (s * g) + y.b * (t * g)) = (t' * (y.a * s + y.b * t)) * g := by grind
  rw [e3, e4, l]
end DL

set_option Elab.async false
set_option maxRecDepth 100000
set_option maxHeartbeats 4000000
set_option exponentiation.threshold 5000
namespace DL
open PySem L2
/-! ### judged turnings -/
noncomputable def t_isT : M Fl := seqM (ifS (DL.orM (notT (tst (isi isTup (getM 0)))) (DL.orM (tcmp fNe (callB fLen (argC (getM 0) (argN))) (cst (.int 4))) (notT (tst (callB fAll (argC (lcM (put1 5) (M.ret true) (callF f_whole (argC (getM 5) (argN))) [5] (itA (getM 0))) (argN))))))) (retS (cst (.bool false))) (nilS))
  (seqM (asgS (asgSeq 4 (asgCons (asgR 1) (asgCons (asgR 2) (asgCons (asgR 3) (asgCons (asgR 4) (asgNil)))))) (getM 0))
  (retS (vAnd (bin fEq (bin fSub (bin fMulI (getM 1) (getM 4)) (bin fMulI (getM 2) (getM 3))) (cst (.int 1))) (vOr (bin fGt (getM 3) (cst (.int 0))) (vAnd (bin fEq (getM 3) (cst (.int 0))) (bin fEq (getM 4) (cst (.int 1))))))))
noncomputable def ft_isT : List D → FO := runF 5 t_isT
theorem isT_ok {m : M4} {k : Nat} (hm : m.lt k) (hk : k < 400000) (hd : m.det = 1) (hn : ¬ m.down) : ft_isT [m.D] = .ok (.val (.bool true)) := by
  obtain ⟨a, b, c, e⟩ := m
  obtain ⟨h1, h2, h3, h4⟩ := hm
  dsimp only at h1 h2 h3 h4
  have m1 := bMul_of k k h1 h4 (by omega)
  have m2 := bMul_of k k h2 h3 (by omega)
  have hd' : a * e - b * c = 1 := hd
  unfold M4.down at hn
  dsimp only at hn
  unfold ft_isT t_isT M4.D
  rw [run_eq]
  by_cases c0 : 0 < c
  · simp [isTup, lc_whole4, m1, m2, hd', c0]
  · have z : c = 0 := by omega
    subst z
    have hd2 : a * e = 1 := by simpa using hd'
    have e1 : e = 1 := by
      rcases unit_of hd2 with ⟨_, h⟩ | ⟨_, h⟩
      · exact h
      · omega
    subst e1
    simp [isTup, lc_whole4, m1, m2, hd2]
/-- shortened by the law -/
theorem made_ok {k : Nat} {p q : Int} (h : ¬ (p = 0 ∧ q = 0)) (hk : k ≤ 4000) (hp : p.natAbs < 2 ^ k) (hq : q.natAbs < 2 ^ k) : ∃ s t g : Int, isF s t ∧ g ≠ 0 ∧ p = s * g ∧ q = t * g ∧ s.natAbs < 2 ^ k ∧ t.natAbs < 2 ^ k ∧ fl_made [.int p, .int q] = .ok (.val (pD s t)) := by
  have b : 2 ^ k ≤ 2 ^ 4000 := Nat.pow_le_pow_right (by decide) hk
  have sp : Sm p := Nat.lt_of_lt_of_le hp b
  have sq : Sm q := Nat.lt_of_lt_of_le hq b
  obtain ⟨s, t, g, hF, g0, e1, e2, hf⟩ := fraction_ok h sp sq
  have gn : g.natAbs ≠ 0 := fun z => g0 (Int.natAbs_eq_zero.mp z)
  refine ⟨s, t, g, hF, g0, e1, e2, ?_, ?_, (made_eq h sp sq).trans hf⟩
  · rw [e1, Int.natAbs_mul] at hp
    exact Nat.lt_of_le_of_lt (Nat.le_mul_of_pos_right _ (by omega)) hp
  · rw [e2, Int.natAbs_mul] at hq
    exact Nat.lt_of_le_of_lt (Nat.le_mul_of_pos_right _ (by omega)) hq
theorem made_of {k : Nat} {a b p q : Int} (ha : isF a b) (h : ¬ (p = 0 ∧ q = 0)) (hk : k ≤ 4000) (hp : p.natAbs < 2 ^ k) (hq : q.natAbs < 2 ^ k) (e : a * q = b * p) : fl_made [.int p, .int q] = .ok (.val (pD a b)) := by
  have b : 2 ^ k ≤ 2 ^ 4000 := Nat.pow_le_pow_right (by decide) hk
  have sp : Sm p := Nat.lt_of_lt_of_le hp b
  have sq : Sm q := Nat.lt_of_lt_of_le hq b
  exact (made_eq h sp sq).trans (fraction_of ha h sp sq e)
end DL

set_option Elab.async false
set_option maxRecDepth 100000
set_option maxHeartbeats 4000000
namespace DL
open PySem L2
/-! ### what turnings obey -/
namespace M4
def smul (e : Int) (m : M4) : M4 := ⟨e * m.a, e * m.b, e * m.c, e * m.d⟩
def adj (m : M4) : M4 := ⟨m.d, -m.b, -m.c, m.a⟩
theorem inv_adj (m : M4) : m.inv = m.adj.nrm := rfl
theorem nrm_sm (m : M4) : ∃ e : Int, (e = 1 ∨ e = -1) ∧ m.nrm = smul e m := nrm_eq m
theorem nrm_smul {m : M4} {e : Int} (h : m.det = 1) (he : e = 1 ∨ e = -1) : (smul e m).nrm = m.nrm := by
  rcases he with rfl | rfl
  · simp [smul]
  · rw [← nrm_neg h]
    simp [smul, neg]
theorem smul_mul (e : Int) (x y : M4) : (smul e x).mul y = smul e (x.mul y) := by
  simp only [smul, mul, M4.mk.injEq]
  refine ⟨?_, ?_, ?_, ?_⟩ <;> grind
theorem mul_smul (e : Int) (x y : M4) : x.mul (smul e y) = smul e (x.mul y) := by
  simp only [smul, mul, M4.mk.injEq]
  refine ⟨?_, ?_, ?_, ?_⟩ <;> grind
theorem mul_assoc' (x y z : M4) : (x.mul y).mul z = x.mul (y.mul z) := by
  simp only [mul, M4.mk.injEq]
  refine ⟨?_, ?_, ?_, ?_⟩ <;> grind
theorem det_adj (m : M4) : m.adj.det = m.det := by
  unfold det adj
  dsimp only
  grind
theorem adj_smul (e : Int) (m : M4) : (smul e m).adj = smul e m.adj := by
  simp [adj, smul, Int.mul_neg]
theorem adj_mul (x y : M4) : (x.mul y).adj = y.adj.mul x.adj := by
  simp only [adj, mul, M4.mk.injEq]
  refine ⟨?_, ?_, ?_, ?_⟩ <;> grind
theorem mul_adj (m : M4) : m.mul m.adj = ⟨m.det, 0, 0, m.det⟩ := by
  simp only [adj, mul, det, M4.mk.injEq]
  refine ⟨?_, ?_, ?_, ?_⟩ <;> grind
theorem adj_mul_self (m : M4) : m.adj.mul m = ⟨m.det, 0, 0, m.det⟩ := by
  simp only [adj, mul, det, M4.mk.injEq]
  refine ⟨?_, ?_, ?_, ?_⟩ <;> grind
theorem nrm_mul_l {x y : M4} (hx : x.det = 1) (hy : y.det = 1) : (x.nrm.mul y).nrm = (x.mul y).nrm := by
  obtain ⟨e, he, en⟩ := nrm_sm x
  rw [en, smul_mul, nrm_smul (by rw [det_mul, hx, hy]; rfl) he]
theorem nrm_mul_r {x y : M4} (hx : x.det = 1) (hy : y.det = 1) : (x.mul y.nrm).nrm = (x.mul y).nrm := by
  obtain ⟨e, he, en⟩ := nrm_sm y
  rw [en, mul_smul, nrm_smul (by rw [det_mul, hx, hy]; rfl) he]
theorem tm_assoc {x y z : M4} (hx : x.det = 1) (hy : y.det = 1) (hz : z.det = 1) : (x.tm y).tm z = x.tm (y.tm z) := by
  unfold tm
  rw [nrm_mul_l (by rw [det_mul, hx, hy]; rfl) hz, nrm_mul_r hx (by rw [det_mul, hy, hz]; rfl), mul_assoc']
theorem tm_inv {x : M4} (hx : x.det = 1) : x.tm x.inv = one := by
  unfold tm
  rw [inv_adj, nrm_mul_r hx (by rw [det_adj, hx]), mul_adj, hx]
  rfl
theorem inv_tm {x : M4} (hx : x.det = 1) : x.inv.tm x = one := by
  unfold tm
  rw [inv_adj, nrm_mul_l (by rw [det_adj, hx]) hx, adj_mul_self, hx]
  rfl
theorem tm_one {x : M4} (h : ¬ x.down) : x.tm one = x := by
  unfold tm
  have : x.mul one = x := by simp [mul, one]
  rw [this, nrm_id h]
theorem one_tm {x : M4} (h : ¬ x.down) : one.tm x = x := by
  unfold tm
  have : one.mul x = x := by simp [mul, one]
  rw [this, nrm_id h]
theorem nrm_adj {x : M4} (hx : x.det = 1) : x.nrm.adj.nrm = x.adj.nrm := by
  obtain ⟨e, he, en⟩ := nrm_sm x
  rw [en, adj_smul, nrm_smul (by rw [det_adj, hx]) he]
theorem inv_mul {x y : M4} (hx : x.det = 1) (hy : y.det = 1) : (x.tm y).inv = y.inv.tm x.inv := by
  unfold tm
  rw [inv_adj, inv_adj, inv_adj, nrm_adj (by rw [det_mul, hx, hy]; rfl), adj_mul]
  rw [nrm_mul_l (by rw [det_adj, hy]) (by rw [det_nrm, det_adj, hx]), nrm_mul_r (by rw [det_adj, hy]) (by rw [det_adj, hx])]
theorem tm_up {x y : M4} (hx : x.det = 1) (hy : y.det = 1) : ¬ (x.tm y).down := nrm_up (by rw [det_mul, hx, hy]; rfl)
theorem inv_up {x : M4} (hx : x.det = 1) : ¬ x.inv.down := by
  rw [inv_adj]
  exact nrm_up (by rw [det_adj, hx])
end M4
/-! ### running x[i] = v -/
@[simp] theorem asgSub_ap (mo mi : M R) (r : R) (ρ : Rho) : asgSub mo mi r ρ = (frz r ρ).bnd fun d => M.bind mo fun ro => M.bind mi fun ri => subM ro ri d := (rfl)
def subO (i : Nat) (v : D) (ρ : Rho) : Option D → Option (Option T) → Out Unit
  | some k, some (some (.lst tag ds)) => (match fSetL ds k v with
    | some es => .ok () (ρ.set i (some (.lst tag es)))
    | none => .bad)
  | _, _ => .bad
@[simp] theorem subM_slot (i : Nat) (ri : R) (v : D) (ρ : Rho) : subM (.slot i) ri v ρ = subO i v ρ (look ri ρ) ρ[i]? := by
  unfold subM subO mutM
  cases look ri ρ with
  | none => rfl
  | some k =>
    dsimp only
    generalize ρ[i]? = o
    match o with
    | none => rfl
    | some none => rfl
    | some (some (.val _)) => rfl
    | some (some (.lst tag ds)) =>
      dsimp only
      cases fSetL ds k v <;> rfl
theorem subO_ok {i : Nat} {v k : D} {ρ : Rho} {tag : Option Nat} {ds es : List D} (h : fSetL ds k v = some es) : subO i v ρ (some k) (some (some (.lst tag ds))) = .ok () (ρ.set i (some (.lst tag es))) := by
  unfold subO
  simp only [h]
@[simp] theorem subO_4_0 (i : Nat) (v : D) (ρ : Rho) (tag : Option Nat) (a b c d : D) : subO i v ρ (some (.int 0)) (some (some (.lst tag [a, b, c, d]))) = .ok () (ρ.set i (some (.lst tag [v, b, c, d]))) := subO_ok (by simp [fSetL, ixN])
@[simp] theorem subO_4_1 (i : Nat) (v : D) (ρ : Rho) (tag : Option Nat) (a b c d : D) : subO i v ρ (some (.int 1)) (some (some (.lst tag [a, b, c, d]))) = .ok () (ρ.set i (some (.lst tag [a, v, c, d]))) := subO_ok (by simp [fSetL, ixN])
@[simp] theorem subO_4_2 (i : Nat) (v : D) (ρ : Rho) (tag : Option Nat) (a b c d : D) : subO i v ρ (some (.int 2)) (some (some (.lst tag [a, b, c, d]))) = .ok () (ρ.set i (some (.lst tag [a, b, v, d]))) := subO_ok (by simp [fSetL, ixN])
@[simp] theorem subO_4_3 (i : Nat) (v : D) (ρ : Rho) (tag : Option Nat) (a b c d : D) : subO i v ρ (some (.int 3)) (some (some (.lst tag [a, b, c, d]))) = .ok () (ρ.set i (some (.lst tag [a, b, c, v]))) := subO_ok (by simp [fSetL, ixN])
end DL

set_option Elab.async false
set_option maxRecDepth 100000
namespace DL
open PySem L2
@[simp] theorem bDivZ_2 (c : Int) : bDivZ c 2 = true := Dvs.ok ⟨by decide, by decide⟩
@[simp] theorem bDivZ_3 (c : Int) : bDivZ c 3 = true := Dvs.ok ⟨by decide, by decide⟩
@[simp] theorem bDivZ_4 (c : Int) : bDivZ c 4 = true := Dvs.ok ⟨by decide, by decide⟩
@[simp] theorem bDivZ_5 (c : Int) : bDivZ c 5 = true := Dvs.ok ⟨by decide, by decide⟩
@[simp] theorem bDivZ_6 (c : Int) : bDivZ c 6 = true := Dvs.ok ⟨by decide, by decide⟩
@[simp] theorem bDivZ_7 (c : Int) : bDivZ c 7 = true := Dvs.ok ⟨by decide, by decide⟩
@[simp] theorem bDivZ_8 (c : Int) : bDivZ c 8 = true := Dvs.ok ⟨by decide, by decide⟩
@[simp] theorem bDivZ_9 (c : Int) : bDivZ c 9 = true := Dvs.ok ⟨by decide, by decide⟩
@[simp] theorem bDivZ_11 (c : Int) : bDivZ c 11 = true := Dvs.ok ⟨by decide, by decide⟩
@[simp] theorem bDivZ_12 (c : Int) : bDivZ c 12 = true := Dvs.ok ⟨by decide, by decide⟩
@[simp] theorem bDivZ_16 (c : Int) : bDivZ c 16 = true := Dvs.ok ⟨by decide, by decide⟩
@[simp] theorem bDivZ_24 (c : Int) : bDivZ c 24 = true := Dvs.ok ⟨by decide, by decide⟩
@[simp] theorem bDivZ_30 (c : Int) : bDivZ c 30 = true := Dvs.ok ⟨by decide, by decide⟩
@[simp] theorem bDivZ_48 (c : Int) : bDivZ c 48 = true := Dvs.ok ⟨by decide, by decide⟩
@[simp] theorem bDivZ_50 (c : Int) : bDivZ c 50 = true := Dvs.ok ⟨by decide, by decide⟩
@[simp] theorem bDivZ_60 (c : Int) : bDivZ c 60 = true := Dvs.ok ⟨by decide, by decide⟩
@[simp] theorem bDivZ_63 (c : Int) : bDivZ c 63 = true := Dvs.ok ⟨by decide, by decide⟩
@[simp] theorem bDivZ_64 (c : Int) : bDivZ c 64 = true := Dvs.ok ⟨by decide, by decide⟩
@[simp] theorem bDivZ_72 (c : Int) : bDivZ c 72 = true := Dvs.ok ⟨by decide, by decide⟩
@[simp] theorem bDivZ_84 (c : Int) : bDivZ c 84 = true := Dvs.ok ⟨by decide, by decide⟩
@[simp] theorem bDivZ_104 (c : Int) : bDivZ c 104 = true := Dvs.ok ⟨by decide, by decide⟩
@[simp] theorem bDivZ_120 (c : Int) : bDivZ c 120 = true := Dvs.ok ⟨by decide, by decide⟩
@[simp] theorem bDivZ_122 (c : Int) : bDivZ c 122 = true := Dvs.ok ⟨by decide, by decide⟩
@[simp] theorem bDivZ_256 (c : Int) : bDivZ c 256 = true := Dvs.ok ⟨by decide, by decide⟩
@[simp] theorem bDivZ_300 (c : Int) : bDivZ c 300 = true := Dvs.ok ⟨by decide, by decide⟩
@[simp] theorem bDivZ_400 (c : Int) : bDivZ c 400 = true := Dvs.ok ⟨by decide, by decide⟩
@[simp] theorem bDivZ_500 (c : Int) : bDivZ c 500 = true := Dvs.ok ⟨by decide, by decide⟩
@[simp] theorem bDivZ_604 (c : Int) : bDivZ c 604 = true := Dvs.ok ⟨by decide, by decide⟩
@[simp] theorem bDivZ_720 (c : Int) : bDivZ c 720 = true := Dvs.ok ⟨by decide, by decide⟩
@[simp] theorem bDivZ_1000 (c : Int) : bDivZ c 1000 = true := Dvs.ok ⟨by decide, by decide⟩
@[simp] theorem bDivZ_1008 (c : Int) : bDivZ c 1008 = true := Dvs.ok ⟨by decide, by decide⟩
@[simp] theorem bDivZ_1009 (c : Int) : bDivZ c 1009 = true := Dvs.ok ⟨by decide, by decide⟩
@[simp] theorem bDivZ_2000 (c : Int) : bDivZ c 2000 = true := Dvs.ok ⟨by decide, by decide⟩
@[simp] theorem bDivZ_3000 (c : Int) : bDivZ c 3000 = true := Dvs.ok ⟨by decide, by decide⟩
@[simp] theorem bDivZ_3600 (c : Int) : bDivZ c 3600 = true := Dvs.ok ⟨by decide, by decide⟩
@[simp] theorem bDivZ_4096 (c : Int) : bDivZ c 4096 = true := Dvs.ok ⟨by decide, by decide⟩
end DL

set_option Elab.async false
set_option maxRecDepth 100000
set_option maxHeartbeats 4000000
namespace DL
open PySem PySem.Spec PyProof.Rows L2
/-! ### a frame's own list changed by a method -/
def MutOk (K : PySem.W.Frag) (r : V → List V → Hp → VK → Prop) (f : List D → List D → Option (List D × D)) : Prop := ∀ (Z : List Addr) (H : Hp) (a : Addr) (zs ys : List V) (es ds es' : List D) (d : D) (Q : VK), H a = some (.lst zs) → RpAll K (wo Z H) zs es → RpAll K (wo Z H) ys ds →
  f es ds = some (es', d) → (∀ zs' v, RpAll K (wo Z H) zs' es' → Rp K (wo Z H) v d → Q v (upd H a (.lst zs'))) → r (.ref a) ys H Q
def mutF (f : List D → List D → Option (List D × D)) (ro : R) (ds : List D) : M R := mutM ro fun es => (f es ds).map fun p => (p.1, .tmp (.val p.2))
section
variable {X : Cx} {W : WX} {o a : Expr} {as : List Expr} {mo : M R} {ms : M (List R)} {apos cpos : Pos} {name : Str} {id : String} {r : V → List V → Hp → VK → Prop} {f : List D → List D → Option (List D × D)}
theorem mut_ok {K : PySem.W.Frag} {mg : Str → Option Value} {P O : List Addr} {A : List V} {H : Hp} {σ : L2.St} {ρ : Rho} {a : Addr} {ys : List V} {ds : List D} {ro : R} {Q : VK} (hf : MutOk K r f) (e : EnvR K P A O H σ ρ) (r1 : ∀ i, ro = .slot i → σ[i]? = some (some (V.ref a)))
    (rp : RpAll K (wo (O ++ P) H) ys ds) (h : Aft (relR K σ) K mg W P A σ O H (mutF f ro ds ρ) Q) : r (.ref a) ys H Q := by
  cases ro with
  | tmp t => exact h.elim
  | slot i =>
    unfold mutF mutM at h
    simp only at h
    cases qi : ρ[i]? with
    | none => rw [qi] at h; exact h.elim
    | some u =>
      cases u with
      | none => rw [qi] at h; exact h.elim
      | some u =>
        cases u with
        | val _ => rw [qi] at h; exact h.elim
        | lst tag es =>
          rw [qi] at h
          simp only at h
          obtain ⟨b, zs, eb, m2, m3, m4, m5⟩ := e.own qi (r1 i rfl)
          cases eb
          cases qf : f es ds with
          | none => rw [qf] at h; exact h.elim
          | some p =>
            obtain ⟨es', d⟩ := p
            rw [qf] at h
            simp only [Option.map_some] at h
            refine hf (O ++ P) H a zs ys es ds es' d Q m2 m3 rp qf fun zs' v q1 q2 => ?_
            obtain ⟨e5, s5⟩ := m5 zs' es' q1
            exact h v _ O [] e5 (rr_val (q2.mono (wo_updP (List.mem_append_left _ m4)))) s5
theorem j_mut (pa : PlainAttrs "list") (slot : Slot "list" name id) (hty : typeOf (.builtin id) = pure (.type "method_descriptor")) (hm : MtR X id r) (hf : MutOk X.K r f) (ho : JE X W o mo) (ha : JEs X W (a :: as) ms)
    (hbase : attributeBase o name X.env (eval o X.env) = eval o X.env)
    (hfew : ((backTo cpos (starEach (a :: as) X.env)).all (fun x => !x.1) && (backToKw cpos (keywordEach [] X.env)).all (fun x => x.1.isSome) && decide ((a :: as).length + ([] : List Keyword).length + (if ([] : List Keyword).isEmpty then 0 else 1) < 30)) = true)
    (hline : (apos.endLine == cpos.line) = true) (hs : starEach (a :: as) X.env = (false, eval a X.env) :: starEach as X.env) (hplain : (backTo cpos (starEach as X.env)).any (·.1) = false) :
    JE X W (.Call (.Attribute o name apos) (a :: as) [] cpos) (M.bind mo fun ro => M.bind (chkL ro) fun _ => M.bind ms fun rs => M.bind (frzs rs) fun ds => mutF f ro ds) :=
  (pe_bm pa slot hty hm ho ha hbase hfew hline hs hplain).imp fun σ H Q h => by
    obtain ⟨P, A, O, ρ, e, h⟩ := h
    refine ⟨P, A, O, ρ, e, (Aft.bind (rl := relR X.K σ) h).mono ?_⟩
    rintro x H1 ⟨O1, ρ1, ro, F, e1, r1, s1, h1⟩
    unfold M.bind chkL at h1
    cases q : look ro ρ1 with
    | none =>
      rw [q] at h1
      exact h1.elim
    | some dl =>
      rw [q] at h1
      cases dl with
      | list ds =>
        simp only at h1
        obtain ⟨a, ws, rfl, rd, _⟩ := (look_vr e1.less r1 q).list
        refine ⟨.inl ⟨rfl, ws, rd⟩, ?_⟩
        refine ⟨F ++ P, A, O1, ρ1, e1, (Aft.bindP (rl := relRs X.K σ) F s1.less (m := ms) (k := fun rs => M.bind (frzs rs) fun ds => mutF f ro ds) h1).mono ?_⟩
        rintro ys H2 ⟨O2, ρ2, rs, G, e2, r2, s2, h2⟩
        have h3 := Aft.step h2 (s1.less.trans s2.less)
        have e2' : EnvR X.K (G ++ P) A O2 H2 σ ρ2 := e2.swap.less
        obtain ⟨O3, ρ3, ds', e3, s3, p3, h4⟩ := Aft.frzs e2' r2.less h3
        exact mut_ok hf e3 (fun i z => by subst z; exact r1) p3 h4
      | _ => exact h1.elim
theorem j_mut0 (pa : PlainAttrs "list") (slot : Slot "list" name id) (hty : typeOf (.builtin id) = pure (.type "method_descriptor")) (hm : MtR X id r) (hf : MutOk X.K r f) (ho : JE X W o mo)
    (hbase : attributeBase o name X.env (eval o X.env) = eval o X.env) (hline : (apos.endLine == cpos.line) = true) :
    JE X W (.Call (.Attribute o name apos) [] [] cpos) (M.bind mo fun ro => M.bind (chkL ro) fun _ => mutF f ro []) :=
  (pe_bm0 pa slot hty hm ho hbase hline).imp fun σ H Q h => by
    obtain ⟨P, A, O, ρ, e, h⟩ := h
    refine ⟨P, A, O, ρ, e, (Aft.bind (rl := relR X.K σ) h).mono ?_⟩
    rintro x H1 ⟨O1, ρ1, ro, F, e1, r1, s1, h1⟩
    unfold M.bind chkL at h1
    cases q : look ro ρ1 with
    | none =>
      rw [q] at h1
      exact h1.elim
    | some dl =>
      rw [q] at h1
      cases dl with
      | list ds =>
        simp only at h1
        obtain ⟨a, ws, rfl, rd, _⟩ := (look_vr e1.less r1 q).list
        refine ⟨.inl ⟨rfl, ws, rd⟩, ?_⟩
        exact mut_ok hf e1.less (fun i z => by subst z; exact r1) .nil (Aft.step h1 s1.less)
      | _ => exact h1.elim
end
def fPop (es ds : List D) : Option (List D × D) := match ds with
  | [] => (match es[es.length - 1]? with
    | some d => some (es.dropLast, d)
    | none => none)
  | _ => none
def fPopAt (es ds : List D) : Option (List D × D) := match ds with
  | [.int i] => if -(2 ^ 63) ≤ i ∧ i < 2 ^ 63 then (match seqIndex? i es.length with
    | some k => (match es[k]? with
      | some d => some (es.eraseIdx k, d)
      | none => none)
    | none => none) else none
  | _ => none
def fIns (es ds : List D) : Option (List D × D) := match ds with
  | [.int i, d] => if es.length < sizeLine ∧ 0 ≤ i ∧ i < 2 ^ 63 then some (es.take i.toNat ++ [d] ++ es.drop i.toNat, .none) else none
  | _ => none
theorem pop_ok {K : PySem.W.Frag} : MutOk K rPop fPop := by
  intro Z H a zs ys es ds es' d Q h1 h2 h3 hf q
  unfold fPop at hf
  split at hf
  · cases h3
    split at hf
    · rename_i d0 q0
      cases hf
      obtain ⟨v, q1, q2⟩ := h2.get q0
      exact ⟨a, zs, v, rfl, rfl, h1, by rw [h2.length]; exact q1, q _ _ h2.dropLast q2⟩
    · cases hf
  · cases hf
theorem popAt_ok {K : PySem.W.Frag} : MutOk K rPopAt fPopAt := by
  intro Z H a zs ys es ds es' d Q h1 h2 h3 hf q
  unfold fPopAt at hf
  split at hf
  · rename_i i
    split at hf
    · rename_i hr
      split at hf
      · rename_i k q0
        split at hf
        · rename_i d0 q1
          cases hf
          obtain ⟨v, q2, q3⟩ := h2.get q1
          cases h3 with
          | cons b c =>
            cases c
            cases b
            exact ⟨a, zs, i, k, v, rfl, rfl, h1, hr.1, hr.2, by rw [h2.length]; exact q0, q2, q _ _ (h2.eraseIdx k) q3⟩
        · cases hf
      · cases hf
    · cases hf
  · cases hf
abbrev rIns : V → List V → Hp → VK → Prop := fun x vs H Q => ∃ (l : Addr) (xs : List V) (i : Int) (y : V), x = .ref l ∧ vs = [.int i, y] ∧ H l = some (.lst xs) ∧ xs.length < sizeLine ∧ 0 ≤ i ∧ i < 2 ^ 63 ∧
    Q .non (upd H l (.lst (xs.take i.toNat ++ [y] ++ xs.drop i.toNat)))
theorem ins_ok {K : PySem.W.Frag} : MutOk K rIns fIns := by
  intro Z H a zs ys es ds es' d Q h1 h2 h3 hf q
  unfold fIns at hf
  split at hf
  · rename_i i d0
    split at hf
    · rename_i hr
      cases hf
      cases h3 with
      | cons b c =>
        cases c with
        | cons b2 c =>
          cases c
          cases b
          exact ⟨a, zs, i, _, rfl, rfl, h1, by rw [h2.length]; exact hr.1, hr.2.1, hr.2.2, q _ _ (((h2.take _).append (.cons b2 .nil)).append (h2.drop _)) .non⟩
    · cases hf
  · cases hf
/-! ### extend by a new list -/
def extM (ro ra : R) : M R := match ra with
  | .tmp (.lst none ds) => mutM ro fun es => if es.length + ds.length ≤ sizeLine then some (es ++ ds, .tmp (.val .none)) else none
  | _ => .bad
section
variable {X : Cx} {W : WX} {o a : Expr} {mo ma : M R} {apos cpos : Pos}
theorem j_extend (ho : JE X W o mo) (ha : JE X W a ma) (hs : starEach [a] X.env = (false, eval a X.env) :: starEach [] X.env) (hbase : attributeBase o "extend" X.env (eval o X.env) = eval o X.env)
    (hfew : ((backTo cpos (starEach [a] X.env)).all (fun x => !x.1) && (backToKw cpos (keywordEach [] X.env)).all (fun x => x.1.isSome) && decide ([a].length + ([] : List Keyword).length + (if ([] : List Keyword).isEmpty then 0 else 1) < 30)) = true)
    (hline : (apos.endLine == cpos.line) = true) (hplain : (backTo cpos (starEach [] X.env)).any (·.1) = false) :
    JE X W (.Call (.Attribute o "extend" apos) [a] [] cpos) (M.bind mo fun ro => M.bind (chkL ro) fun _ => M.bind ma fun ra => extM ro ra) :=
  (pe_bm PySem.F.plainAttrs_list PySem.F.slot_list_extend PySem.F.type_list_extend mt_extend ho (pa_cons ha pa_nil hs) hbase hfew hline hs hplain).imp fun σ H Q h => by
    obtain ⟨P, A, O, ρ, e, h⟩ := h
    refine ⟨P, A, O, ρ, e, (Aft.bind (rl := relR X.K σ) h).mono ?_⟩
    rintro x H1 ⟨O1, ρ1, ro, F, e1, r1, s1, h1⟩
    unfold M.bind chkL at h1
    cases q : look ro ρ1 with
    | none =>
      rw [q] at h1
      exact h1.elim
    | some dl =>
      rw [q] at h1
      cases dl with
      | list ds =>
        simp only at h1
        obtain ⟨a, ws, rfl, rd, _⟩ := (look_vr e1.less r1 q).list
        refine ⟨.inl ⟨rfl, ws, rd⟩, ?_⟩
        refine ⟨F ++ P, A, O1, ρ1, e1, (Aft.bindP (rl := relR X.K σ) F s1.less (m := ma) (k := fun ra => extM ro ra) h1).mono ?_⟩
        rintro y H2 ⟨O2, ρ2, ra, G, e2, r2, s2, h2⟩
        have h4 := Aft.step h2 (s1.less.trans s2.less)
        have e2' : EnvR X.K (G ++ P) A O2 H2 σ ρ2 := e2.swap.less
        show rExtend (.ref a) [y] H2 Q
        unfold extM at h4
        cases ra with
        | slot j => exact h4.elim
        | tmp t =>
          cases t with
          | val d => exact h4.elim
          | lst tg ds2 =>
            cases tg with
            | some _ => exact h4.elim
            | none =>
              simp only at h4
              obtain ⟨p1, p2, _⟩ := r2.less
              cases p1 with
              | @lst b vs2 _ _ b1 b2 b3 =>
                cases ro with
                | tmp t => exact h4.elim
                | slot i =>
                  unfold mutM at h4
                  simp only at h4
                  cases qi : ρ2[i]? with
                  | none => rw [qi] at h4; exact h4.elim
                  | some u =>
                    cases u with
                    | none => rw [qi] at h4; exact h4.elim
                    | some u =>
                      cases u with
                      | val _ => rw [qi] at h4; exact h4.elim
                      | lst tag es =>
                        rw [qi] at h4
                        simp only at h4
                        obtain ⟨b', zs, eb, m2, m3, m4, m5⟩ := e2'.less.own qi (show σ[i]? = some (some (V.ref a)) from r1)
                        cases eb
                        by_cases hl : es.length + ds2.length ≤ sizeLine
                        · rw [if_pos hl] at h4
                          simp only at h4
                          have b3' : RpAll X.K (wo (O2 ++ P) H2) vs2 ds2 := b3.mono fun c o z => by
                            obtain ⟨z1, z2⟩ := wo_some.mp z
                            simp only [List.mem_append, not_or] at z1
                            exact wo_some.mpr ⟨by simp only [List.mem_append, not_or]; exact z1.2, z2⟩
                          obtain ⟨e5, s5⟩ := m5 (zs ++ vs2) (es ++ ds2) (m3.append b3')
                          refine ⟨a, b, zs, vs2, rfl, rfl, m2, b2, by rw [m3.length, b3'.length]; exact hl, ?_⟩
                          exact h4 .non _ O2 [] e5 (rr_val .non) s5
                        · rw [if_neg hl] at h4
                          exact h4.elim
      | _ => exact h1.elim
end
abbrev muE (f : List D → List D → Option (List D × D)) (mo : M R) (ms : M (List R)) : M R := M.bind mo fun ro => M.bind (chkL ro) fun _ => M.bind ms fun rs => M.bind (frzs rs) fun ds => mutF f ro ds
abbrev muE0 (f : List D → List D → Option (List D × D)) (mo : M R) : M R := M.bind mo fun ro => M.bind (chkL ro) fun _ => mutF f ro []
abbrev exE (mo ma : M R) : M R := M.bind mo fun ro => M.bind (chkL ro) fun _ => M.bind ma fun ra => extM ro ra
end DL

set_option Elab.async false
set_option maxRecDepth 100000
set_option maxHeartbeats 4000000
namespace DL
open PySem PySem.Spec PyProof.Rows L2
def muR (i : Nat) (tag : Option Nat) (ρ : Rho) : Option (List D × D) → Out R
  | some p => .ok (.tmp (.val p.2)) (ρ.set i (some (.lst tag p.1)))
  | none => .bad
def muO (f : List D → List D → Option (List D × D)) (i : Nat) (ds : List D) (ρ : Rho) : Option (Option T) → Out R
  | some (some (.lst tag es)) => muR i tag ρ (f es ds)
  | _ => .bad
@[simp] theorem mutF_slot (f : List D → List D → Option (List D × D)) (i : Nat) (ds : List D) (ρ : Rho) : mutF f (.slot i) ds ρ = muO f i ds ρ ρ[i]? := by
  unfold mutF mutM
  dsimp only
  generalize ρ[i]? = o
  match o with
  | none => rfl
  | some none => rfl
  | some (some (.val _)) => rfl
  | some (some (.lst tag es)) =>
    show _ = muR i tag ρ (f es ds)
    cases h : f es ds <;> simp only [h] <;> rfl
@[simp] theorem muO_lst (f : List D → List D → Option (List D × D)) (i : Nat) (ds : List D) (ρ : Rho) (tag : Option Nat) (es : List D) : muO f i ds ρ (some (some (.lst tag es))) = muR i tag ρ (f es ds) := (rfl)
@[simp] theorem muR_some (i : Nat) (tag : Option Nat) (ρ : Rho) (es : List D) (d : D) : muR i tag ρ (some (es, d)) = .ok (.tmp (.val d)) (ρ.set i (some (.lst tag es))) := (rfl)
@[simp] theorem fPop_snoc (es : List D) (d : D) : fPop (es ++ [d]) [] = some (es, d) := by
  unfold fPop
  simp
theorem fPopAt_nat {es : List D} {k : Nat} {d : D} (h : es[k]? = some d) (hl : es.length ≤ 16777216) : fPopAt es [.int (k : Int)] = some (es.eraseIdx k, d) := by
  have hk : k < es.length := (List.getElem?_eq_some_iff.mp h).1
  unfold fPopAt
  simp only
  have e : seqIndex? (k : Int) es.length = some k := by
    unfold seqIndex?
    simp
    omega
  rw [if_pos (by omega), e]
  simp only [h]
theorem fIns_nat {es : List D} {k : Nat} {d : D} (hk : k ≤ es.length) (hl : es.length < 16777216) : fIns es [.int (k : Int), d] = some (es.take k ++ [d] ++ es.drop k, .none) := by
  unfold fIns
  simp only
  rw [if_pos ⟨sizeLine_lt hl, by omega, by omega⟩]
  rfl
def exO (i : Nat) (ds : List D) (ρ : Rho) : Option (Option T) → Out R
  | some (some (.lst tag es)) => if es.length + ds.length ≤ sizeLine then .ok (.tmp (.val .none)) (ρ.set i (some (.lst tag (es ++ ds)))) else .bad
  | _ => .bad
@[simp] theorem extM_slot (i : Nat) (ds : List D) (ρ : Rho) : extM (.slot i) (.tmp (.lst none ds)) ρ = exO i ds ρ ρ[i]? := by
  unfold extM mutM
  dsimp only
  generalize ρ[i]? = o
  match o with
  | none => rfl
  | some none => rfl
  | some (some (.val _)) => rfl
  | some (some (.lst tag es)) =>
    by_cases hl : es.length + ds.length ≤ sizeLine
    · simp only [exO, if_pos hl]
    · simp only [exO, if_neg hl]
@[simp] theorem exO_lst (i : Nat) (ds : List D) (ρ : Rho) (tag : Option Nat) (es : List D) (h : es.length + ds.length ≤ 16777216) : exO i ds ρ (some (some (.lst tag es))) = .ok (.tmp (.val .none)) (ρ.set i (some (.lst tag (es ++ ds)))) := if_pos (sizeLine_big h)
def rngO2 (ρ : Rho) : Option D → Option D → Out (List D)
  | some (.int i), some (.int j) => if -(2 ^ 62) ≤ i ∧ i < 2 ^ 62 ∧ -(2 ^ 62) ≤ j ∧ j < 2 ^ 62 then .ok (irange i (j - i).toNat) ρ else .bad
  | _, _ => .bad
@[simp] theorem rng2_ap (r r' : R) (ρ : Rho) : rng2 [r, r'] ρ = rngO2 ρ (look r ρ) (look r' ρ) := by
  unfold rng2
  dsimp only
  generalize look r ρ = a
  generalize look r' ρ = b
  cases a with
  | none => rfl
  | some a => cases b with
    | none => cases a <;> rfl
    | some b => cases a <;> cases b <;> rfl
theorem rngO2_int (ρ : Rho) {i j : Int} (h1 : -(2 ^ 62) ≤ i) (h2 : i < 2 ^ 62) (h3 : -(2 ^ 62) ≤ j) (h4 : j < 2 ^ 62) : rngO2 ρ (some (.int i)) (some (.int j)) = .ok (irange i (j - i).toNat) ρ := if_pos ⟨h1, h2, h3, h4⟩
/-! ### fractions made by the program, with bounds -/
theorem frac_b {p q : Int} {k : Nat} (h : ¬ (p = 0 ∧ q = 0)) (hk : k ≤ 4000) (hp : p.natAbs < 2 ^ k) (hq : q.natAbs < 2 ^ k) : ∃ s t : Int, isF s t ∧ s.natAbs < 2 ^ k ∧ t.natAbs < 2 ^ k ∧ DL.f_fraction [.int p, .int q] = .ok (.val (pD s t)) := by
  have b : 2 ^ k ≤ 2 ^ 4000 := Nat.pow_le_pow_right (by decide) hk
  obtain ⟨s, t, g, h1, h2, h3, h4, h5, h6, h7⟩ := DL.made_ok h hk hp hq
  exact ⟨s, t, h1, h5, h6, (made_eq h (Nat.lt_of_lt_of_le hp b) (Nat.lt_of_lt_of_le hq b)).symm.trans h7⟩
end DL

set_option Elab.async false
set_option maxRecDepth 100000
set_option maxHeartbeats 4000000
namespace DL
open PySem PySem.Spec PyProof.Rows L2
/-! ### methods of values -/
def MthOk (K : PySem.W.Frag) (r : V → List V → Hp → VK → Prop) (g : D → List D → Option T) : Prop := ∀ (Z : List Addr) (H : Hp) (x : V) (vs : List V) (d : D) (ds : List D) (t : T) (Q : VK), (∀ p, H p = none → p ∉ Z) → VR K Z H x d → Paired (VR K Z H) vs ds → g d ds = some t →
  (∀ v H', NewT K Z H H' v t → Q v H') → r x vs H Q
def tyT : D → String
  | .str _ => "str"
  | .list _ => "list"
  | .tuple _ => "tuple"
  | _ => ""
def chkT (T : String) (r : R) : M Unit := fun ρ => match look r ρ with
  | some d => if tyT d = T then .ok () ρ else .bad
  | none => .bad
def opMN (g : D → List D → Option T) (ro : R) (rs : List R) : M R := fun ρ => match look ro ρ, looks rs ρ with
  | some d, some ds => (match g d ds with
    | some t => .ok (.tmp t) ρ
    | none => .bad)
  | _, _ => .bad
theorem VR.tyV_str {K : PySem.W.Frag} {Z : List Addr} {H : Hp} {x : V} {d : D} (h : VR K Z H x d) (ht : tyT d = "str") : tyV K "str" x H := by
  cases d with
  | str z =>
    cases h.str
    rfl
  | none => simp [tyT] at ht
  | bool _ => simp [tyT] at ht
  | int _ => simp [tyT] at ht
  | list _ => simp [tyT] at ht
  | tuple _ => simp [tyT] at ht
  | dict _ => simp [tyT] at ht
theorem VR.tyV_list {K : PySem.W.Frag} {Z : List Addr} {H : Hp} {x : V} {d : D} (h : VR K Z H x d) (ht : tyT d = "list") : tyV K "list" x H := by
  cases d with
  | list z =>
    obtain ⟨a, ws, rfl, rd, _⟩ := h.list
    exact .inl ⟨rfl, ws, rd⟩
  | none => simp [tyT] at ht
  | bool _ => simp [tyT] at ht
  | int _ => simp [tyT] at ht
  | str _ => simp [tyT] at ht
  | tuple _ => simp [tyT] at ht
  | dict _ => simp [tyT] at ht
section
variable {X : Cx} {W : WX} {o a : Expr} {as : List Expr} {mo : M R} {ms : M (List R)} {apos cpos : Pos} {name : Str} {T id : String} {r : V → List V → Hp → VK → Prop} {g : D → List D → Option DL.T}
theorem j_mth (hT : ∀ {Z : List Addr} {H : Hp} {x : V} {d : D}, VR X.K Z H x d → tyT d = T → tyV X.K T x H) (pa : PlainAttrs T) (slot : Slot T name id) (hty : typeOf (.builtin id) = pure (.type "method_descriptor")) (hm : MtR X id r) (hf : MthOk X.K r g) (ho : JE X W o mo) (ha : JEs X W (a :: as) ms)
    (hbase : attributeBase o name X.env (eval o X.env) = eval o X.env)
    (hfew : ((backTo cpos (starEach (a :: as) X.env)).all (fun x => !x.1) && (backToKw cpos (keywordEach [] X.env)).all (fun x => x.1.isSome) && decide ((a :: as).length + ([] : List Keyword).length + (if ([] : List Keyword).isEmpty then 0 else 1) < 30)) = true)
    (hline : (apos.endLine == cpos.line) = true) (hs : starEach (a :: as) X.env = (false, eval a X.env) :: starEach as X.env) (hplain : (backTo cpos (starEach as X.env)).any (·.1) = false) :
    JE X W (.Call (.Attribute o name apos) (a :: as) [] cpos) (M.bind mo fun ro => M.bind (chkT T ro) fun _ => M.bind ms fun rs => opMN g ro rs) :=
  (pe_bm pa slot hty hm ho ha hbase hfew hline hs hplain).imp fun σ H Q h => by
    obtain ⟨P, A, O, ρ, e, h⟩ := h
    refine ⟨P, A, O, ρ, e, (Aft.bind (rl := relR X.K σ) h).mono ?_⟩
    rintro x H1 ⟨O1, ρ1, ro, F, e1, r1, s1, h1⟩
    unfold M.bind chkT at h1
    cases q : look ro ρ1 with
    | none =>
      rw [q] at h1
      exact h1.elim
    | some d =>
      rw [q] at h1
      simp only at h1
      by_cases ht : tyT d = T
      · rw [if_pos ht] at h1
        simp only at h1
        refine ⟨hT (look_vr e1.less r1 q) ht, ?_⟩
        refine ⟨F ++ P, A, O1, ρ1, e1, (Aft.bindP (rl := relRs X.K σ) F s1.less (m := ms) (k := fun rs => opMN g ro rs) h1).mono ?_⟩
        rintro ys H2 ⟨O2, ρ2, rs, G, e2, r2, s2, h2⟩
        have h3 := Aft.step h2 (s1.less.trans s2.less)
        have r1' := r1.step s2.less e1.off
        unfold opMN at h3
        split at h3
        · rename_i d' ds q1 q2
          split at h3
          · rename_i t qt
            exact hf (O2 ++ P) H2 x ys d' ds t Q (fun p hp => e2.less.less.fresh hp) (look_vr e2.less.less r1' q1) (looks_vr e2.less.less r2.less q2) qt fun v H' n => h3.tmp e2.less.less n
          · exact h3.elim
        · exact h3.elim
      · rw [if_neg ht] at h1
        exact h1.elim
end
/-- texts in a list -/
def asStrs : List D → Option (List Str)
  | [] => some []
  | .str b :: ds => (asStrs ds).map (b :: ·)
  | _ => none
theorem asStrs_V {K : PySem.W.Frag} {H : Hp} : ∀ {ds : List D} {vs : List V} {bs : List Str}, RpAll K H vs ds → asStrs ds = some bs → vs = bs.map V.str
  | [], _, _, .nil, h => by
    cases h
    rfl
  | d :: ds, _, bs, .cons a b, h => by
    cases d with
    | str z =>
      unfold asStrs at h
      obtain ⟨es, q1, rfl⟩ := Option.map_eq_some_iff.mp h
      cases a
      rw [asStrs_V b q1]
      rfl
    | _ => cases h
def fJoin (d : D) (ds : List D) : Option T := match d, ds with
  | .str a, [.list ys] => (match asStrs ys with
    | some zs => if (zs.map (·.length)).sum + zs.length * a.length ≤ 16777216 then some (.val (.str (Txt.join a zs))) else none
    | none => none)
  | _, _ => none
theorem join_ok {K : PySem.W.Frag} : MthOk K (fun x xs H Q => ∃ a p, ∃ ys : List Str, x = .str a ∧ xs = [.ref p] ∧ (SqL K H p (ys.map V.str) ∨ SqT K H p (ys.map V.str)) ∧
    (ys.map (·.length)).sum + ys.length * a.length ≤ 16777216 ∧ Q (.str (Txt.join a ys)) H) fJoin := by
  intro Z H x vs d ds t Q hz hx hv hf q
  unfold fJoin at hf
  split at hf
  · rename_i a ys
    split at hf
    · rename_i zs qz
      split at hf
      · rename_i hl
        cases hf
        obtain ⟨v, rfl, c⟩ := paired1 hv
        obtain ⟨p, ws, rfl, h1, h2⟩ := c.list
        cases hx.str
        have := asStrs_V h2 qz
        subst this
        exact ⟨a, p, zs, rfl, rfl, .inl h1, hl, q _ _ (NewT.scal (.str _))⟩
      · cases hf
    · cases hf
  · cases hf
abbrev mthE (T : String) (g : D → List D → Option DL.T) (mo : M R) (ms : M (List R)) : M R := M.bind mo fun ro => M.bind (chkT T ro) fun _ => M.bind ms fun rs => opMN g ro rs
/-! ### text * number -/
def mulOkB (a : Str) (n : Int) : Bool := decide (n < 2 ^ 62) && (decide (-(2 ^ 62) ≤ n) && decide (a.length * n.toNat ≤ 16777216))
def fMulS : D → D → Option T
  | .str a, .int n => if mulOkB a n then some (.val (.str (Txt.mul a n))) else none
  | _, _ => none
def rMulS : R2 := fun x y H Q => ∃ a n, x = .str a ∧ y = .int n ∧ mulOkB a n = true ∧ Q (.str (Txt.mul a n)) H
theorem op_mulS {X : Cx} : OpR X (binaryOp .Mult) rMulS := by
  intro pins s σ H x y v u Q I rx ry h
  obtain ⟨a, n, rfl, rfl, hk, q⟩ := h
  obtain ⟨t, rfl⟩ := rx
  obtain ⟨t2, rfl⟩ := ry
  unfold mulOkB at hk
  rw [Bool.and_eq_true, Bool.and_eq_true] at hk
  have h1 := of_decide_eq_true hk.1
  have h2 := of_decide_eq_true hk.2.1
  have h3 := of_decide_eq_true hk.2.2
  refine PySem.SB.mul ⟨?_, fun hn hc hh => ?_, fun hn hc => ?_⟩ fun t' k => ⟨.str _, H, I.tok k, ⟨t', rfl⟩, q⟩
  · rw [Bool.or_eq_false_iff]
    exact ⟨decide_eq_false (Int.not_lt.mpr (Int.le_trans (by decide) h2)), decide_eq_false (Int.not_le.mpr (Int.lt_trans h1 (by decide)))⟩
  · have hn1 : 1 ≤ n := by omega
    have e : (n.toNat : Int) = n := by omega
    have h4 : ((a.length * n.toNat : Nat) : Int) ≤ ((16777216 : Nat) : Int) := Int.ofNat_le.mpr h3
    rw [Int.natCast_mul, e] at h4
    have h6 : (2 ^ 63 - 1 : Int) < ((2 ^ 63 - 1) / n + 1) * n := Int.lt_ediv_add_one_mul_self _ (by omega)
    have h0 : ((16777216 : Nat) : Int) < 2 ^ 63 - 1 := by decide
    generalize (2 ^ 63 - 1 : Int) = B at *
    have h7 : (B / n + 1) * n ≤ (a.length : Int) * n := Int.mul_le_mul_of_nonneg_right (by omega) (by omega)
    omega
  · exact decide_eq_false (by have := line63; unfold sizeLine at *; omega)
theorem mulS_ok {K : PySem.W.Frag} : OpOk K rMulS fMulS := by
  intro Z H x y d e t Q hz hx hy hf q
  unfold fMulS at hf
  split at hf
  · split at hf
    · rename_i a n hk
      cases hf
      cases hx.str
      cases hy.int
      exact ⟨a, n, rfl, rfl, hk, q _ _ (NewT.scal (.str _))⟩
    · cases hf
  · cases hf
/-! ### list(a list | a tuple | a text) -/
def signs (z : Str) : List D := z.cps.toList.map fun c => .str ⟨#[c]⟩
def fListU : List D → Option T
  | [.list ds] => some (.lst none ds)
  | [.tuple ds] => some (.lst none ds)
  | [.str z] => if z.length ≤ sizeLine then some (.lst none (signs z)) else none
  | _ => none
theorem call_listS {X : Cx} (hc : X.calm = true) : CallR X (.type "list") (fun xs H Q => ∃ z : Str, xs = [.str z] ∧ z.length ≤ sizeLine ∧ ∀ l, H l = none → Q (.ref l) (upd H l (.lst (z.cps.toList.map fun c => V.str ⟨#[c]⟩)))) := by
  intro pins s σ H xs us Q I r h
  obtain ⟨z, rfl, hz, q⟩ := h
  obtain ⟨u, rfl, t, rfl⟩ := vals1 r
  refine PySem.call_list_str (I.ok.hd hc) z t (fun h' tk acc' c' hk hD hacc => ?_) hz
  have hv : Vals (z.cps.toList.map fun c => V.str ⟨#[c]⟩) acc'.toList := by
    have key : ∀ (cs : List Nat) (us : List Value), us.length = cs.length → (∀ (j : Nat) (v : Value), us[j]? = some v → ∃ c u, cs[j]? = some c ∧ v = .str ⟨#[c]⟩ u) → Vals (cs.map fun c => V.str ⟨#[c]⟩) us := by
      intro cs
      induction cs with
      | nil =>
        intro us hl _
        cases us with
        | nil => exact .nil
        | cons _ _ => cases hl
      | cons c cs ih =>
        intro us hl hj
        cases us with
        | nil => cases hl
        | cons u us =>
          obtain ⟨c', t, e1, e2⟩ := hj 0 u rfl
          cases e1
          exact .cons ⟨t, e2⟩ (ih us (by simpa using hl) fun j v e => hj (j + 1) v e)
    refine key _ _ ?_ fun j v e => ?_
    · rw [Array.length_toList, hacc.1, Array.length_toList]
    · obtain ⟨c, u, e1, e2⟩ := hacc.2 j v (by rw [← Array.getElem?_toList]; exact e)
      exact ⟨c, u, by rw [Array.getElem?_toList]; exact e1, e2⟩
  refine ⟨.ref s.heap.objs.size, upd H s.heap.objs.size (.lst (z.cps.toList.map fun c => V.str ⟨#[c]⟩)), I.laid (t' := tk) hk (Nat.le_refl _)
    (show ObjOk X.prog X.w _ _ _ (.lst (z.cps.toList.map fun c => V.str ⟨#[c]⟩)) from ⟨by rw [List.length_map, Array.length_toList]; exact hz, acc'.toList, c', hv, by rw [Array.toArray_toList]; exact hD⟩), rfl, q _ (I.hok.fresh (Nat.le_refl _))⟩
abbrev rListU (K : PySem.W.Frag) : List V → Hp → VK → Prop := fun xs H Q => (∃ p ys, xs = [.ref p] ∧ (SqL K H p ys ∨ SqT K H p ys) ∧ ∀ l, H l = none → Q (.ref l) (upd H l (.lst ys))) ∨
  ∃ z : Str, xs = [.str z] ∧ z.length ≤ sizeLine ∧ ∀ l, H l = none → Q (.ref l) (upd H l (.lst (z.cps.toList.map fun c => V.str ⟨#[c]⟩)))
theorem call_listU {X : Cx} (hc : X.calm = true) : CallR X (.type "list") (rListU X.K) := call_list_of.or (call_listS hc)
theorem listU_ok {K : PySem.W.Frag} : CallOk K (rListU K) fListU := by
  intro Z H vs ds t Q hz hv hf q
  unfold fListU at hf
  split at hf
  · cases hf
    obtain ⟨v, rfl, a⟩ := paired1 hv
    obtain ⟨p, ws, rfl, h1, h2⟩ := a.list
    exact .inl ⟨p, ws, rfl, .inl h1, fun l hl => q _ _ (NewT.lst hl h2)⟩
  · cases hf
    obtain ⟨v, rfl, a⟩ := paired1 hv
    obtain ⟨p, ws, rfl, h1, h2, h3⟩ := a.tuple
    exact .inl ⟨p, ws, rfl, .inr h1, fun l hl => q _ _ (NewT.lst hl h2)⟩
  · split at hf
    · rename_i z hl
      cases hf
      obtain ⟨v, rfl, a⟩ := paired1 hv
      cases a.str
      refine .inr ⟨z, rfl, hl, fun l hl => q _ _ (NewT.lst hl ?_)⟩
      unfold signs
      generalize z.cps.toList = cs
      induction cs with
      | nil => exact .nil
      | cons c cs ih => exact .cons (.str _) ih
    · cases hf
  · cases hf
end DL

set_option Elab.async false
set_option maxRecDepth 100000
set_option maxHeartbeats 4000000
namespace DL
open PySem PySem.Spec PyProof.Rows L2
/-! ### a def that changes the list lent to it (its first parameter) -/
def FAftL (K : PySem.W.Frag) (P : List Addr) (a : Addr) (H : Hp) (o : Option (List D × D)) (Q : VK) : Prop := match o with
  | some p => ∀ v H' zs', (∀ b u, b ≠ a → H b = some u → H' b = some u) → H' a = some (.lst zs') → RpAll K (wo (a :: P) H') zs' p.1 → Rp K (fun _ => none) v p.2 → Q v H'
  | none => False
def spL (K : PySem.W.Frag) (n : Nat) (f : List D → List D → Option (List D × D)) : Sp := fun vs H Q _ => ∃ (P : List Addr) (a : Addr) (vs' zs : List V) (es ds : List D), vs = .ref a :: vs' ∧ ds.length + 1 = n ∧ H a = some (.lst zs) ∧ a ∉ P ∧ RpAll K (wo (a :: P) H) zs es ∧
  RpAll K (fun _ => none) vs' ds ∧ (∀ b ∈ P, ∃ o, H b = some o) ∧ FAftL K P a H (f es ds) Q
def runL (n : Nat) (m : M Fl) (es ds : List D) : Option (List D × D) := match m ((some (.lst (some 0) es) :: ds.map (fun d => some (T.val d))) ++ List.replicate n none) with
  | .ok .nx ρ => (match ρ[0]? with
    | some (some (T.lst (some 0) es')) => some (es', PyData.none)
    | _ => none)
  | _ => none
section
variable {P : Program} {w : World} {K : PySem.W.Frag} {mg : Str → Option Value} {base : Heap} {x qual : Str} {params : Arguments} {body : List Stmt} {scope : Scope} {f : Addr} {fd : FuncData}
theorem start_envL {N ps : List Str} {n : Nat} {Pr : List Addr} {H : Hp} {a : Addr} {vs zs : List V} {es ds : List D} (hN : N.length = ps.length + n) (hl : ds.length + 1 = ps.length) (ha : H a = some (.lst zs)) (hn : a ∉ Pr) (rz : RpAll K (wo (a :: Pr) H) zs es) (rp : RpAll K (fun _ => none) vs ds) (hP : ∀ a ∈ Pr, ∃ o, H a = some o) :
    EnvR K Pr (.ref a :: vs) [a] H (L2.start N (.ref a :: vs)) ((some (.lst (some 0) es) :: ds.map (fun d => some (T.val d))) ++ List.replicate n none) := by
  have hv := rp.length
  have key : ∀ (i : Nat) (t : T), ((some (.lst (some 0) es) :: ds.map (fun d => some (T.val d))) ++ List.replicate n none)[i]? = some (some t) → (i = 0 ∧ t = .lst (some 0) es) ∨ ∃ j d, i = j + 1 ∧ ds[j]? = some d ∧ t = .val d := by
    intro i t q
    cases i with
    | zero =>
      left
      simp only [List.cons_append, List.getElem?_cons_zero, Option.some.injEq] at q
      exact ⟨rfl, q.symm⟩
    | succ j =>
      right
      rw [List.cons_append, List.getElem?_cons_succ] at q
      by_cases hi : j < ds.length
      · rw [List.getElem?_append_left (by simpa using hi), List.getElem?_map] at q
        obtain ⟨d, q1, q2⟩ := Option.map_eq_some_iff.mp q
        cases q2
        exact ⟨j, d, rfl, q1, rfl⟩
      · rw [List.getElem?_append_right (by simpa using hi), List.getElem?_replicate] at q
        split at q <;> cases q
  have at0 : (L2.start N (.ref a :: vs))[0]? = some (some (V.ref a)) := by
    unfold L2.start
    rfl
  refine ⟨?_, ⟨fun i => if i = 0 then [a] else [], fun i t q => ?_, fun i j hij b h => ?_⟩, fun b hb => ⟨fun z => hn (by rw [← List.mem_singleton.mp z]; exact hb), hP b hb⟩, fun b hb => ?_, fun i k ds' q => ?_⟩
  · simp only [L2.start, List.length_append, List.length_map, List.length_replicate, List.length_cons]
    omega
  · rcases key i t q with ⟨rfl, rfl⟩ | ⟨j, d, rfl, q1, rfl⟩
    · refine ⟨.ref a, at0, ?_, fun b h => by simpa using h⟩
      show RepT K ([a] ++ Pr) H (V.ref a) (T.lst (some 0) es) [a]
      refine .lst (List.mem_append_left _ (List.mem_singleton.mpr rfl)) ha (rz.mono fun b o z => ?_)
      obtain ⟨z1, z2⟩ := wo_some.mp z
      exact wo_some.mpr ⟨by simpa using z1, z2⟩
    · obtain ⟨v, q2, r⟩ := rp.get q1
      refine ⟨v, ?_, .val (r.mono fun _ _ z => by cases z), fun b h => by simp at h⟩
      unfold L2.start
      rw [List.getElem?_append_left (by simpa using (List.getElem?_eq_some_iff.mp q2).1), List.getElem?_map, List.getElem?_cons_succ, q2]
      rfl
  · by_cases hi : i = 0
    · subst hi
      simp only [if_neg (Ne.symm hij)]
      exact List.not_mem_nil
    · simp only [if_neg hi] at h
      exact absurd h List.not_mem_nil
  · rw [List.mem_singleton.mp hb]
    exact ⟨_, ha⟩
  · rcases key i _ q with ⟨rfl, z⟩ | ⟨j, d, rfl, _, z⟩
    · cases z
      exact ⟨.ref a, at0, rfl⟩
    · cases z
theorem fn_okL {N ps : List Str} {k n : Nat} {m : M Fl} (F : FunD K x qual params body scope [] [] f fd) (S : FnScope N ps scope) (hN : N.length = ps.length + n)
    (hbody : ∀ (cdv : Value) (A : Around) (outer : List Env) (s : Shared) (H : Hp) (E : XK), Room k (A.deeper (envOfC qual scope s.heap.objs.size f cdv)) →
      JSs (cxOf (L2.CX P w) P w K mg base N qual scope f cdv A outer s H E) (fun cls d _ H => E cls d H) body m) : FnOk P w K mg base (L2.CX P w) (k + 1) f fd ps (spL K ps.length (runL n m)) := by
  refine F.ok S (fun vs H Q E h => ?_) (fun cdv A outer s H vs Q E hr h => ⟨_, hbody cdv A outer s H E hr, ?_⟩)
  · obtain ⟨Pr, a, vs', zs, es, ds, rfl, hl, _, _, _, rp, _⟩ := h
    rw [List.length_cons, rp.length, hl]
  · obtain ⟨Pr, a, vs', zs, es, ds, rfl, hl, ha, hn, rz, rp, hP, hf⟩ := h
    refine ⟨Pr, .ref a :: vs', [a], _, start_envL hN hl ha hn rz rp hP, ?_⟩
    show AftS K mg _ Pr (.ref a :: vs') [a] H (m ((some (.lst (some 0) es) :: ds.map (fun d => some (T.val d))) ++ List.replicate n none)) _
    unfold runL at hf
    cases q : m ((some (.lst (some 0) es) :: ds.map (fun d => some (T.val d))) ++ List.replicate n none) with
    | bad =>
      rw [q] at hf
      exact hf
    | exc x ρ' =>
      rw [q] at hf
      exact hf.elim
    | ok fl ρ' =>
      rw [q] at hf
      cases fl with
      | bk => exact hf.elim
      | ct => exact hf.elim
      | rt r => exact hf.elim
      | nx =>
        simp only at hf
        split at hf
        · rename_i es' q0
          intro σ' H' O' e s1
          obtain ⟨v, t1, t2⟩ := e.tag 0 0 es' q0
          obtain rfl : V.ref a = v := Option.some.inj t2
          obtain ⟨Fs, h1, h2⟩ := e.at_
          obtain ⟨w', e1, r, hO⟩ := h1 0 _ q0
          rw [t1] at e1
          cases e1
          generalize hF : Fs 0 = F at r hO
          cases r with
          | @lst _ zs' _ _ m1 m2 m3 =>
            have haO : a ∈ O' := hO a (List.mem_singleton.mpr rfl)
            refine hf .non H' zs' (fun b u hb hu => s1.ext b u (fun z => hb (List.mem_singleton.mp z)) hu) m2 (m3.mono fun b u z => ?_) .non
            obtain ⟨z1, z2⟩ := wo_some.mp z
            refine wo_some.mpr ⟨fun y => z1 ?_, z2⟩
            rcases List.mem_cons.mp y with y | y
            · rw [y]
              exact List.mem_append_left _ haO
            · exact List.mem_append_right _ y
        · exact hf.elim
end
def callLM (f : List D → List D → Option (List D × D)) (rs : List R) : M R := fun ρ => match rs with
  | .slot i :: rs' => (match ρ[i]?, looks rs' ρ with
    | some (some (.lst tag es)), some ds => if ds.all scalD = true then (match f es ds with
      | some p => if scalD p.2 = true then .ok (.tmp (.val p.2)) (ρ.set i (some (.lst tag p.1))) else .bad
      | none => .bad) else .bad
    | _, _ => .bad)
  | _ => .bad
theorem rp_scal {K : PySem.W.Frag} {H : Hp} {v : V} {d : D} (h : Rp K H v d) (s : scalD d = true) : Rp K (fun _ => none) v d := by
  cases h with
  | non => exact .non
  | bl b => exact .bl b
  | int i => exact .int i
  | str i => exact .str i
  | lst _ _ => cases s
  | tup _ _ => cases s
theorem rps_scal {K : PySem.W.Frag} {H : Hp} : ∀ {vs : List V} {ds : List D}, RpAll K H vs ds → ds.all scalD = true → RpAll K (fun _ => none) vs ds
  | _, _, .nil, _ => .nil
  | _, _, .cons a b, h => by
    rw [List.all_cons, Bool.and_eq_true] at h
    exact .cons (rp_scal a h.1) (rps_scal b h.2)
theorem callLM_ok {K : PySem.W.Frag} {mg : Str → Option Value} {W : WX} {P O F : List Addr} {A : List V} {H : Hp} {σ : L2.St} {ρ : Rho} {vs : List V} {rs : List R} {n : Nat} {f : List D → List D → Option (List D × D)} {Q : VK} (e : EnvR K (F ++ P) A O H σ ρ) (r : RRs K P O H σ F vs rs)
    (h : Aft (relR K σ) K mg W P A σ O H (callLM f rs ρ) Q) (hn : rs.length = n) (E : XK) : spL K n f vs H Q E := by
  unfold callLM at h
  cases r with
  | nil => exact h.elim
  | @cons _ _ _ _ v vs' ro rs' F1 Fs G r1 r2 hG =>
    cases ro with
    | tmp t => exact h.elim
    | slot i =>
      simp only at h
      split at h
      · rename_i tag es ds q1 q2
        by_cases hs : ds.all scalD = true
        · rw [if_pos hs] at h
          have e0 : EnvR K P A O H σ ρ := e.less
          obtain ⟨a, zs, rfl, m2, m3, m4, m5⟩ := e0.own q1 (show σ[i]? = some (some v) from r1)
          have rp : RpAll K (fun _ => none) vs' ds := by
            have e1 : EnvR K (F1 ++ P) A O H σ ρ := by
              rw [hG, List.append_assoc] at e
              exact e.less
            exact rps_scal (Paired.rp (looks_vr e1 r2 q2)) hs
          have na : a ∉ P := fun z => (e0.prot a z).1 m4
          have mem : ∀ b, b ∈ a :: (O.filter (fun c => decide (c ≠ a)) ++ P) ↔ b ∈ O ++ P := fun b => by
            simp only [List.mem_cons, List.mem_append, List.mem_filter, decide_eq_true_eq]
            constructor
            · rintro (rfl | ⟨h1, _⟩ | h1)
              · exact .inl m4
              · exact .inl h1
              · exact .inr h1
            · rintro (h1 | h1)
              · by_cases hb : b = a
                · exact .inl hb
                · exact .inr (.inl ⟨h1, hb⟩)
              · exact .inr (.inr h1)
          refine ⟨O.filter (fun c => decide (c ≠ a)) ++ P, a, vs', zs, es, ds, rfl, ?_, m2, fun z => ?_, m3.mono fun b o z => ?_, rp, fun b hb => ?_, ?_⟩
          · have := looks_len q2
            rw [this, ← hn, List.length_cons]
          · rcases List.mem_append.mp z with z | z
            · have := (List.mem_filter.mp z).2
              simp at this
            · exact na z
          · obtain ⟨z1, z2⟩ := wo_some.mp z
            exact wo_some.mpr ⟨fun y => z1 ((mem b).mp y), z2⟩
          · rcases List.mem_append.mp hb with z | z
            · exact e0.trk b (List.mem_filter.mp z).1
            · exact (e0.prot b z).2
          · cases qf : f es ds with
            | none =>
              rw [qf] at h
              exact h.elim
            | some p =>
              rw [qf] at h
              simp only at h
              by_cases hd : scalD p.2 = true
              · rw [if_pos hd] at h
                intro v H' zs' k1 k2 k3 k4
                have more : ∀ b u, H b = some u → upd H' a (.lst zs) b = some u := fun b u z => by
                  by_cases hb : b = a
                  · subst hb
                    rw [m2] at z
                    rw [upd_same, z]
                  · rw [upd_ne hb]
                    exact k1 b u hb z
                have e1 : EnvR K P A O (upd H' a (.lst zs)) σ ρ := e0.more more
                obtain ⟨a', zs1, ea, _, _, _, m5'⟩ := e1.own q1 (show σ[i]? = some (some (V.ref a)) from r1)
                cases ea
                have back : upd (upd H' a (.lst zs)) a (.lst zs') = H' := by
                  rw [upd_upd]
                  funext b
                  by_cases hb : b = a
                  · subst hb
                    rw [upd_same, k2]
                  · rw [upd_ne hb]
                have k3' : RpAll K (wo (O ++ P) (upd H' a (.lst zs))) zs' p.1 := k3.mono fun b u z => by
                  obtain ⟨z1, z2⟩ := wo_some.mp z
                  refine wo_some.mpr ⟨fun y => z1 ((mem b).mpr y), ?_⟩
                  rw [upd_ne fun y => z1 (by rw [y]; exact List.mem_cons_self)]
                  exact z2
                obtain ⟨e5, s5⟩ := m5' zs' p.1 k3'
                rw [back] at e5 s5
                exact h v H' O [] e5 (rr_val (k4.mono fun _ _ z => by cases z)) ((Step.more more).trans s5)
              · rw [if_neg hd] at h
                exact h.elim
        · rw [if_neg hs] at h
          exact h.elim
      · exact h.elim
section
variable {X : Cx} {W : WX} {k n : Nat} {f : Addr} {fd : FuncData} {ps : List Str} {g : List D → List D → Option (List D × D)} {x : Str} {p pos : Pos} {e : Expr} {es : List Expr} {ms : M (List R)}
theorem j_callL (F : FnOk X.prog X.w X.K X.mg X.base (L2.CX X.prog X.w) k f fd ps (spL X.K (es.length + 1) g)) (hr : Room k X.A) (tk : Takes X W) (hg : Gl X x) (hm : X.mg x = some (.ref f)) (hk : PySem.W.keepIn X.K (.ref f) = true) (hb : Binds X.K fd ps [])
    (ha : JEs X W (e :: es) ms) (hl : ∀ ρ rs ρ', ms ρ = .ok rs ρ' → rs.length = es.length + 1) (hdb : (x == ("__debug__" : Str)) = false) (he : starEach (e :: es) X.env = (false, eval e X.env) :: starEach es X.env) (hpl : (backTo pos (starEach es X.env)).any (·.1) = false) :
    JE X W (.Call (.Name x p) (e :: es) [] pos) (M.bind ms (callLM g)) := (pe_callS (E := WE W) F hr hg hm hk hb (fun σ => passAt tk σ) ha hdb he hpl).imp fun σ H Q h => by
  obtain ⟨P, A, O, ρ, e, h⟩ := h
  cases q : ms ρ with
  | bad =>
    unfold M.bind at h
    rw [q] at h
    exact h.elim
  | exc x ρ1 =>
    refine ⟨P, A, O, ρ, e, ?_⟩
    unfold M.bind at h
    rw [q] at h ⊢
    exact h
  | ok rs ρ1 =>
    refine ⟨P, A, O, ρ, e, ?_⟩
    unfold M.bind at h
    rw [q] at h ⊢
    intro vs H1 O1 F1 e1 r1 s1
    exact callLM_ok e1 r1 (Aft.step h s1.less) (hl ρ rs ρ1 q) _
end
abbrev lentF (f : List D → List D → Option (List D × D)) (ms : M (List R)) : M R := M.bind ms (callLM f)
end DL

set_option Elab.async false
set_option maxRecDepth 100000
set_option maxHeartbeats 4000000
namespace DL
open PySem PySem.Spec PyProof.Rows L2
/-! ### a written table of the module, text keys -/
def tabV (K : PySem.W.Frag) (a : Addr) (kvs : List (Str × D)) : Bool := kvs.all fun q => match PySem.W.nsIn K a q.1 with
  | some (some u) => kRp K 50 u q.2
  | _ => false
structure Tab (K : PySem.W.Frag) (w : World) (mg : Str → Option Value) (x : Str) (kvs : List (Str × D)) : Prop where
  ex : ∃ a es n, mg x = some (.ref a) ∧ L2.KDict K w a es n ∧ (∀ q ∈ kvs, ∃ u v, PySem.W.nsIn K a q.1 = some (some u) ∧ RelV v u ∧ ∀ H, Rp K H v q.2) ∧ ∀ z, z ∉ kvs.map (·.1) → PySem.W.nsIn K a z = some none
theorem keyOf_no {K : PySem.W.Frag} {P : Params} {a : Addr} {es : Array DictEntry} {n : Nat} {ks : List Str} {z : Str} (h : K.lookup a = some ⟨.type "dict", none, .dict es n, #[]⟩) (hk : es.toList.map He.keyOf = He.keysIn P ks) (hz : z ∉ ks) : PySem.W.nsIn K a z = some none := by
  unfold PySem.W.nsIn
  rw [h]
  dsimp only
  have key : ∀ (l : List DictEntry) (ks : List Str), l.map He.keyOf = He.keysIn P ks → z ∉ ks → l.find? (·.key.isStr z) = none ∧ l.any (·.refKey) = false := by
    intro l
    induction l with
    | nil => exact fun _ _ _ => ⟨rfl, rfl⟩
    | cons e l ih =>
      intro ks hk hz
      cases ks with
      | nil => cases hk
      | cons k ks =>
        have h1 : He.keyOf e :: l.map He.keyOf = some (k, PyData.keyHash P k) :: He.keysIn P ks := hk
        injection h1 with h2 h3
        obtain ⟨i1, i2⟩ := ih ks h3 fun y => hz (List.mem_cons_of_mem _ y)
        unfold He.keyOf at h2
        split at h2
        · rename_i x t q
          have h4 := Option.some.inj h2
          obtain ⟨h5, h6⟩ := Prod.mk.inj h4
          have hx : x ≠ z := fun y => hz (by rw [← y, h5]; exact List.mem_cons_self)
          have e1 : e.key.isStr z = false := by
            rw [q, PySem.W.isStr_of]
            unfold Value.isStrOf
            exact beq_eq_false_iff_ne.mpr (by first | exact hx | exact Ne.symm hx)
          have e2 : e.refKey = false := by
            unfold DictEntry.refKey
            rw [q]
          rw [List.find?_cons, e1, List.any_cons, e2]
          exact ⟨i1, i2⟩
        · cases h2
  obtain ⟨k1, k2⟩ := key es.toList ks hk hz
  rw [k1, k2]
  rfl
theorem tab_ok {K : PySem.W.Frag} {w : World} {h : Heap} {mg : Str → Option Value} {x : Str} {kvs : List (Str × D)} (X : K.In h) (G : h.Ns mainGlobals mg) (h1 : He.dicW K (He.ga K x) = some (He.keysIn w.params (kvs.map (·.1))))
    (h2 : (He.eqO (PySem.W.nsIn K mainGlobals x) (some (some (.ref (He.ga K x)))) && tabV K (He.ga K x) kvs) = true) : Tab K w mg x kvs := by
  rw [Bool.and_eq_true] at h2
  obtain ⟨es, n, D⟩ := He.dicW_ok h1
  have hm := PySem.W.mg_of X G (He.eqO_ok h2.1)
  refine ⟨_, es, n, hm, D, fun q hq => ?_, fun z hz => ?_⟩
  · have h3 := List.all_eq_true.mp h2.2 q hq
    split at h3
    · rename_i u e
      obtain ⟨v, r1, r2⟩ := kRp_ok h3
      exact ⟨u, v, e, r1, r2⟩
    · cases h3
  · refine keyOf_no (P := w.params) D.at_ ?_ hz
    unfold He.dicW at h1
    rw [D.at_] at h1
    dsimp only at h1
    split at h1
    · exact Option.some.inj h1
    · cases h1
def tabIx (kvs : List (Str × D)) (r : R) : M R := fun ρ => match look r ρ with
  | some (.str z) => (match kvs.lookup z with
    | some d => .ok (.tmp (.val d)) ρ
    | none => .bad)
  | _ => .bad
def tabIn (neg : Bool) (kvs : List (Str × D)) (r : R) : M R := fun ρ => match look r ρ with
  | some (.str z) => .ok (.tmp (.val (.bool (if neg = true then !decide (z ∈ kvs.map (·.1)) else decide (z ∈ kvs.map (·.1)))))) ρ
  | _ => .bad
theorem lookup_mem {z : Str} {d : D} : ∀ {l : List (Str × D)}, l.lookup z = some d → (z, d) ∈ l
  | [], h => by cases h
  | (b, u) :: r, h => by
    rw [List.lookup_cons] at h
    split at h
    · rename_i q
      cases h
      rw [eq_of_beq q]
      exact List.mem_cons_self
    · exact List.mem_cons_of_mem _ (lookup_mem h)
section
variable {X : Cx} {W : WX} {x : Str} {kvs : List (Str × D)} {b : Expr} {mb : M R} {p pos : Pos}
theorem j_tabIx (c : Tab X.K X.w X.mg x kvs) (hg : Gl X x) (hd : (x == ("__debug__" : Str)) = false) (hb : JE X W b mb) (hs : PlainIx b) : JE X W (.Subscript (.Name x p) b pos) (M.bind mb (tabIx kvs)) := by
  obtain ⟨a, es, n, hm, D, hv, _⟩ := c.ex
  refine (pe_ix ix_kdict (pe_glob (v := .ref a) hg hm rfl hd) hb hs).imp fun σ H Q h => ?_
  show tR X.K X.mg W mb σ H _
  obtain ⟨P, A, O, ρ, e, h⟩ := h
  refine ⟨P, A, O, ρ, e, (Aft.bind (rl := relR X.K σ) h).mono ?_⟩
  rintro y H1 ⟨O1, ρ1, rb, F, e1, r1, s1, h1⟩
  unfold tabIx at h1
  split at h1
  · rename_i z q
    split at h1
    · rename_i d qd
      have vr := look_vr e1.less r1 q
      cases vr.str
      obtain ⟨u, v, k1, k2, k3⟩ := hv _ (lookup_mem qd)
      refine ⟨a, z, v, rfl, rfl, ⟨es, n, u, D.at_, D.lit, k1, k2⟩, ?_⟩
      exact (h1.step s1.less).tmp e1.less (NewT.scal (k3 _))
    · exact h1.elim
  · exact h1.elim
theorem j_tabIn (c : Tab X.K X.w X.mg x kvs) (hg : Gl X x) (hd : (x == ("__debug__" : Str)) = false) (hb : JE X W b mb) (hm' : behindInMarks .In (.Name x p) = false) : JE X W (.Compare b [.In] [.Name x p] pos) (M.bind mb (tabIn false kvs)) := by
  obtain ⟨a, es, n, hm, D, hv, hn⟩ := c.ex
  refine (pe_cmpR (op_in_kd D) hb (pe_glob (v := .ref a) hg hm rfl hd) hm').imp fun σ H Q h => ?_
  show tR X.K X.mg W mb σ H _
  obtain ⟨P, A, O, ρ, e, h⟩ := h
  refine ⟨P, A, O, ρ, e, (Aft.bind (rl := relR X.K σ) h).mono ?_⟩
  rintro y H1 ⟨O1, ρ1, rb, F, e1, r1, s1, h1⟩
  unfold tabIn at h1
  split at h1
  · rename_i z q
    have vr := look_vr e1.less r1 q
    cases vr.str
    have fin := (h1.step s1.less).tmp e1.less (NewT.scal (.bl _))
    by_cases hz : z ∈ kvs.map (·.1)
    · obtain ⟨q0, hq, rfl⟩ := List.mem_map.mp hz
      obtain ⟨u, v, k1, k2, k3⟩ := hv q0 hq
      refine ⟨q0.1, some u, rfl, rfl, k1, ?_⟩
      simp only [hz, decide_true, Bool.false_eq_true, if_false] at fin
      exact fin
    · refine ⟨z, none, rfl, rfl, hn z hz, ?_⟩
      simp only [hz, decide_false, Bool.false_eq_true, if_false] at fin
      exact fin
  · exact h1.elim
end
/-! ### a text from behind -/
def fRev : D → Option T
  | .str z => if z.length ≤ sizeLine then some (.val (.str ⟨z.cps.toList.reverse.toArray⟩)) else none
  | _ => none
def revM (r : R) : M R := fun ρ => match look r ρ with
  | some d => (match fRev d with
    | some t => .ok (.tmp t) ρ
    | none => .bad)
  | none => .bad
theorem rev_eq (z : Str) (u : Tok) : Txt.sliceBy z none none (-1, u) = ⟨z.cps.toList.reverse.toArray⟩ := by
  have h := PyProof.Rows.step_rev_list z u
  have : (Txt.sliceBy z none none (-1, u)).cps = z.cps.toList.reverse.toArray := by
    apply Array.ext'
    rw [h, List.toList_toArray]
    apply List.ext_getElem
    · simp [Str.length]
    · intro i h1 h2
      simp only [List.getElem_map, List.getElem_range, List.getElem_reverse, Array.getElem_toList]
      have hi : i < z.length := by simpa using h1
      have hz : z.length = z.cps.size := rfl
      have : z.length - 1 - i < z.cps.size := by omega
      simp only [Array.getD, this, dif_pos, Array.length_toList]
      rfl
  rw [← this]
theorem pe_rev {X : Cx} {e st : Expr} {te ts : TE} {pos p2 : Pos} (he : PE X e te) (hs : PE X st ts) : PE X (.Subscript e (.Slice none none (some st) p2) pos) (fun σ H Q => te σ H fun x H1 => ts σ H1 fun y H2 => ∃ z : Str, x = .str z ∧ y = .int (-1) ∧ z.length ≤ sizeLine ∧ Q (.str ⟨z.cps.toList.reverse.toArray⟩) H2) := by
  refine ⟨fun pins s σ H Q I h => ?_⟩
  refine Subscript_ (thn (he.run pins s σ H _ I h) fun v s1 ⟨x, H1, I1, r1, q1⟩ => ?_)
  refine wpAny_Slice ?_
  rw [evalPart_none]
  refine wpAny_pure (wpAny_pure ?_)
  rw [evalPart_some]
  refine thn (hs.run pins s1 σ H1 _ I1 q1) fun vs s3 ⟨y, H3, I3, rs, q3⟩ => ?_
  obtain ⟨z, rfl, rfl, hz, q⟩ := q3
  obtain ⟨t, rfl⟩ := r1
  obtain ⟨uk, rfl⟩ := rs
  have I4 : Inv X pins σ H3 { s3 with heap := s3.heap.push { cls := .type "slice", data := .fields #[.none, .none, .int (-1) uk] } } := I3.kept (t' := s3.toks) fun b ob q => Heap.get?_push_of_some _ q
  have hg : wpAny (model X.prog X.w) X.A (getItem (.str z t) (.ref s3.heap.objs.size)) (EP X pins σ Q) X.xe { s3 with heap := s3.heap.push { cls := .type "slice", data := .fields #[.none, .none, .int (-1) uk] } } := by
    refine wpAny_getItem_str_slice (l := none) (u := none) (st := some (-1, uk)) ⟨_, Heap.get?_push_size _ rfl, rfl, rfl⟩ rfl ?_
    refine post_val_or_str ⟨Nat.le_trans (Txt.sliceBy_le z none none (-1, uk) (show (-1 : Int) ≠ 0 by decide)) hz, fun t' c => ?_⟩
    refine ⟨.str _, H3, I4.tok c, ⟨t', rfl⟩, ?_⟩
    have := rev_eq z uk
    rw [← this] at q
    exact q
  exact tail_any (ops := [.ref s3.heap.objs.size, .str z t]) (typeIs_str _ _ _) PySem.F.slot_str_getitem.lookup hg (by with_unfolding_all rfl)
theorem j_rev {X : Cx} {W : WX} {e : Expr} {me : M R} {i j : Pos} {pos p2 : Pos} (he : JE X W e me) {st : Expr} (hs : PE X st (tC (.int (-1)))) : JE X W (.Subscript e (.Slice none none (some st) p2) pos) (M.bind me revM) :=
  (pe_rev he hs).imp fun σ H Q h => by
    obtain ⟨P, A, O, ρ, e, h⟩ := h
    refine ⟨P, A, O, ρ, e, (Aft.bind (rl := relR X.K σ) h).mono ?_⟩
    rintro y H1 ⟨O1, ρ1, rb, F, e1, r1, s1, h1⟩
    unfold revM at h1
    split at h1
    · rename_i d q
      split at h1
      · rename_i t qt
        unfold fRev at qt
        split at qt
        · rename_i z
          split at qt
          · rename_i hz
            cases qt
            have vr := look_vr e1.less r1 q
            cases vr.str
            exact ⟨z, rfl, rfl, hz, (h1.step s1.less).tmp e1.less (NewT.scal (.str _))⟩
          · cases qt
        · cases qt
      · exact h1.elim
    · exact h1.elim
theorem pe_neg1 {X : Cx} {k pos p} : PE X (.UnaryOp .USub (.Constant (.int 1) k p) pos) (tC (.int (-1))) := (pe_un un_neg pe_int).imp fun σ H Q h => by
  exact ⟨1, rfl, h⟩
/-! ### n += k, whole numbers -/
def fAddI : D → D → Option T
  | .int i, .int j => some (.val (.int (i + j)))
  | _, _ => none
theorem ipAdd_ok {K : PySem.W.Frag} : OpOk K (ipI fun i j => i + j) fAddI := by
  intro Z H x y d e t Q hz hx hy hf q
  unfold fAddI at hf
  split at hf
  · cases hf
    cases hx.int
    cases hy.int
    exact ⟨_, _, rfl, rfl, q _ _ (NewT.scal (.int _))⟩
  · cases hf
theorem ipSub_ok {K : PySem.W.Frag} : OpOk K (ipI fun i j => i - j) fSub := by
  intro Z H x y d e t Q hz hx hy hf q
  unfold fSub at hf
  unfold fInt at hf
  split at hf
  · cases hf
    cases hx.int
    cases hy.int
    exact ⟨_, _, rfl, rfl, q _ _ (NewT.scal (.int _))⟩
  · cases hf
/-! ### the head's hook, with tables -/
abbrev AlY : Type := He.AlD × List (Option (List (Option (Str × Int))))
abbrev TabN : Type := Str × List Str
def obsY (fx : PySem.W.Frag → Bool) (fa : List He.Fa) (fn : List He.DefD) (ts : List TabN) (K : PySem.W.Frag) : AlY := (obsX fx fa fn K, ts.map fun t => He.dicW K (He.ga K t.1))
def valY (fn : List He.DefD) (ts : List TabN) (w : World) : AlY := (He.valD fn, ts.map fun t => some (He.keysIn w.params t.2))
def SaysY (fx : PySem.W.Frag → Bool) (fa : List He.Fa) (fn : List He.DefD) (ts : List TabN) (w : World) (K : PySem.W.Frag) : Prop := obsY fx fa fn ts K = valY fn ts w
theorem SaysY.x {fx : PySem.W.Frag → Bool} {fa : List He.Fa} {fn : List He.DefD} {ts : List TabN} {w : World} {K : PySem.W.Frag} (c : SaysY fx fa fn ts w K) : SaysX fx fa fn K := congrArg (fun z : AlY => z.1) c
theorem SaysY.tab {fx : PySem.W.Frag → Bool} {fa : List He.Fa} {fn : List He.DefD} {ts : List TabN} {w : World} {K : PySem.W.Frag} (c : SaysY fx fa fn ts w K) (i : Nat) {t : TabN} (h : ts[i]? = some t := by rfl) : He.dicW K (He.ga K t.1) = some (He.keysIn w.params t.2) := by
  have e : ts.map (fun t => He.dicW K (He.ga K t.1)) = ts.map fun t => some (He.keysIn w.params t.2) := congrArg (fun z : AlY => z.2) c
  have e2 : (ts.map fun t => He.dicW K (He.ga K t.1))[i]? = (ts.map fun t => some (He.keysIn w.params t.2))[i]? := by rw [e]
  rw [List.getElem?_map, List.getElem?_map, h] at e2
  exact Option.some.inj e2
def obsYG (n : Nat) (fx : PySem.W.Frag → Bool) (fa : List He.Fa) (fn : List He.DefD) (ts : List TabN) (g : Addr → Option Obj) : AlY := obsY fx fa fn ts (He.frG g (He.asD g n))
def hookY (n : Nat) (fx : PySem.W.Frag → Bool) (fa : List He.Fa) (fn : List He.DefD) (ts : List TabN) : PySem.W.Hook where
  α := AlY
  obs := fun s => obsYG n fx fa fn ts s.heap.get?
  val := fun w => valY fn ts w
  says := fun w h => ∃ K : PySem.W.Frag, K.In h ∧ SaysY fx fa fn ts w K
  of := fun _ _ e => ⟨_, He.frG_in, e⟩
  keeps := fun _ _ _ ⟨K, hK, c⟩ k => ⟨K, PySem.W.Frag.In.keeps hK k, c⟩
theorem obsYG_eq {n : Nat} {fx : PySem.W.Frag → Bool} {fa : List He.Fa} {fn : List He.DefD} {ts : List TabN} {g : Addr → Option Obj} {s : Shared} (h : ∀ a, g a = s.heap.get? a) : obsYG n fx fa fn ts g = (hookY n fx fa fn ts).obs s := by
  have e : g = s.heap.get? := funext h
  rw [e] <;> rfl
end DL

set_option Elab.async false
set_option maxRecDepth 100000
set_option maxHeartbeats 4000000
namespace DL
open PySem L2
/-! ### short words -/
def Short (l : List Nat) : Prop := (∀ c ∈ l, isLet c) ∧ ∀ a c d b, l = a ++ c :: d :: b → (c = 115 ↔ ¬ d = 115)
theorem Short.nil : Short [] := ⟨fun _ h => (by cases h), fun a c d b h => by simp at h⟩
theorem Short.one {c : Nat} (h : isLet c) : Short [c] := ⟨fun x hx => by rw [List.mem_singleton.mp hx]; exact h, fun a x d b h => by
  have := congrArg List.length h
  simp at this
  omega⟩
theorem Short.cons {c d : Nat} {t : List Nat} (h : Short (d :: t)) (hc : isLet c) (hj : c = 115 ↔ ¬ d = 115) : Short (c :: d :: t) := by
  refine ⟨fun x hx => ?_, fun a x y b e => ?_⟩
  · rcases List.mem_cons.mp hx with rfl | hx
    · exact hc
    · exact h.1 x hx
  · cases a with
    | nil =>
      simp only [List.nil_append, List.cons.injEq] at e
      obtain ⟨rfl, rfl, rfl⟩ := e
      exact hj
    | cons z a =>
      simp only [List.cons_append, List.cons.injEq] at e
      exact h.2 a x y b e.2
theorem Short.tail {c : Nat} {t : List Nat} (h : Short (c :: t)) : Short t := ⟨fun x hx => h.1 x (List.mem_cons_of_mem _ hx), fun a x y b e => h.2 (c :: a) x y b (by rw [e]; rfl)⟩
theorem Short.head {c d : Nat} {t : List Nat} (h : Short (c :: d :: t)) : c = 115 ↔ ¬ d = 115 := h.2 [] c d t rfl
theorem Short.let_ {c : Nat} {t : List Nat} (h : Short (c :: t)) : isLet c := h.1 c List.mem_cons_self
theorem Short.rev {l : List Nat} (h : Short l) : Short l.reverse := by
  refine ⟨fun c hc => h.1 c (List.mem_reverse.mp hc), fun a c d b e => ?_⟩
  have := congrArg List.reverse e
  simp only [List.reverse_reverse, List.reverse_append, List.reverse_cons, List.append_assoc, List.singleton_append] at this
  have := h.2 b.reverse d c a.reverse (by simpa using this)
  constructor
  · intro h1 h2
    exact (this.mp h2) h1
  · intro h1
    exact Decidable.by_contra fun z => h1 (this.mpr z)
theorem Short.app : ∀ {a b : List Nat}, Short a → Short b → (∀ x y, a.getLast? = some x → b.head? = some y → (x = 115 ↔ ¬ y = 115)) → Short (a ++ b)
  | [], _, _, hb, _ => hb
  | [c], [], ha, _, _ => by simpa using ha
  | [c], d :: t, ha, hb, hj => hb.cons ha.let_ (hj c d rfl rfl)
  | c :: d :: t, b, ha, hb, hj => (Short.app ha.tail hb (fun x y h1 h2 => hj x y (by rw [List.getLast?_cons_cons]; exact h1) h2)).cons ha.let_ ha.head
theorem Short.left {a b : List Nat} (h : Short (a ++ b)) : Short a := ⟨fun c hc => h.1 c (List.mem_append_left _ hc), fun x c d y e => h.2 x c d (y ++ b) (by rw [e]; simp)⟩
theorem Short.right {a b : List Nat} (h : Short (a ++ b)) : Short b := ⟨fun c hc => h.1 c (List.mem_append_right _ hc), fun x c d y e => h.2 (a ++ x) c d y (by rw [e]; simp)⟩
theorem alt.short {d0 : Int} {l : List Nat} (h : alt d0 l) : Short l := by
  refine ⟨h.let_, fun a c d b e => ?_⟩
  have h1 := h a.length c (by rw [e]; simp)
  have h2 := h (a.length + 1) d (by rw [e]; simp [List.getElem?_append_right])
  rw [h1.2, h2.2]
  omega
/-! ### turnings of words put together -/
theorem letM_det (c : Nat) : (letM c).det = 1 := M4.det_let c
theorem letM_up (c : Nat) : ¬ (letM c).down := by
  unfold letM
  split
  · decide
  · split <;> decide
theorem trn_fold (l : List Nat) : ∀ m : M4, m.det = 1 → ¬ m.down → l.foldl (fun m c => m.tm (letM c)) m = m.tm (trn l) := by
  induction l with
  | nil =>
    intro m hd hu
    show m = m.tm M4.one
    rw [M4.tm_one hu]
  | cons c l ih =>
    intro m hd hu
    show l.foldl _ (m.tm (letM c)) = _
    rw [ih _ (M4.det_tm hd (letM_det c)) (M4.tm_up hd (letM_det c))]
    show _ = m.tm (l.foldl _ (M4.one.tm (letM c)))
    rw [ih _ (M4.det_tm rfl (letM_det c)) (M4.tm_up rfl (letM_det c)), M4.one_tm (letM_up c), M4.tm_assoc hd (letM_det c) (trn_det l)]
theorem trn_app (u v : List Nat) : trn (u ++ v) = (trn u).tm (trn v) := by
  show (u ++ v).foldl _ M4.one = _
  rw [List.foldl_append]
  exact trn_fold v _ (trn_det u) (trn_up u)
theorem trn_one (c : Nat) : trn [c] = letM c := by
  show M4.one.tm (letM c) = _
  rw [M4.one_tm (letM_up c)]
theorem trn_cons (c : Nat) (u : List Nat) : trn (c :: u) = (letM c).tm (trn u) := by
  rw [show c :: u = [c] ++ u from rfl, trn_app, trn_one]
/-- what undoes a letter -/
def opp (c : Nat) : Nat := if c = 115 then 115 else if c = 114 then 113 else 114
theorem opp_let {c : Nat} (h : isLet c) : isLet (opp c) := by
  rcases h with rfl | rfl | rfl <;> unfold isLet opp <;> decide
theorem opp_s {c : Nat} (h : isLet c) : opp c = 115 ↔ c = 115 := by
  rcases h with rfl | rfl | rfl <;> decide
theorem opp_inv {c : Nat} (h : isLet c) : letM (opp c) = (letM c).inv := by
  rcases h with rfl | rfl | rfl <;> decide
def undo (u : List Nat) : List Nat := (u.map opp).reverse
theorem trn_undo : ∀ {u : List Nat}, (∀ c ∈ u, isLet c) → trn (undo u) = (trn u).inv
  | [], _ => by decide
  | c :: u, h => by
    have e : undo (c :: u) = undo u ++ [opp c] := by simp [undo]
    rw [e, trn_app, trn_undo fun c hc => h c (List.mem_cons_of_mem _ hc), trn_one, opp_inv (h c List.mem_cons_self), trn_cons, M4.inv_mul (letM_det c) (trn_det u)]
theorem undo_let {u : List Nat} (h : ∀ c ∈ u, isLet c) : ∀ c ∈ undo u, isLet c := fun c hc => by
  obtain ⟨d, hd, rfl⟩ := List.mem_map.mp (List.mem_reverse.mp hc)
  exact opp_let (h d hd)
theorem short_map {u : List Nat} (h : Short u) : Short (u.map opp) := by
  induction u with
  | nil => exact Short.nil
  | cons c u ih =>
    cases u with
    | nil => exact Short.one (opp_let h.let_)
    | cons d u =>
      refine (ih h.tail).cons (opp_let h.let_) ?_
      rw [opp_s h.let_, opp_s h.tail.let_]
      exact h.head
theorem short_undo {u : List Nat} (h : Short u) : Short (undo u) := (short_map h).rev
/-! ### a short word that is nothing has no letter -/
theorem nrm_one {m : M4} : m.nrm = M4.one ↔ m = M4.one ∨ m = ⟨-1, 0, 0, -1⟩ := by
  constructor
  · intro h
    unfold M4.nrm at h
    split at h
    · right
      obtain ⟨a, b, c, d⟩ := m
      simp only [M4.neg, M4.one, M4.mk.injEq] at h ⊢
      omega
    · exact .inl h
  · rintro (rfl | rfl) <;> decide
def Pos (m : M4) : Prop := ∃ e : Int, (e = 1 ∨ e = -1) ∧ 1 ≤ e * m.a ∧ 1 ≤ e * m.d ∧ e * m.b ≤ 0 ∧ e * m.c ≤ 0 ∧ e * m.b + e * m.c < 0
theorem Pos.nrm {m : M4} (h : Pos m) : Pos m.nrm := by
  unfold M4.nrm
  split
  · obtain ⟨e, he, h1, h2, h3, h4, h5⟩ := h
    refine ⟨-e, by omega, ?_, ?_, ?_, ?_, ?_⟩ <;> (simp only [M4.neg, Int.neg_mul_neg]; assumption)
  · exact h
theorem Pos.sr {m : M4} (h : Pos m) : Pos (m.tm ⟨1, -1, 0, 1⟩) := by
  apply Pos.nrm
  obtain ⟨e, he, h1, h2, h3, h4, h5⟩ := h
  refine ⟨e, he, ?_⟩
  rcases he with rfl | rfl <;> (simp only [M4.mul]; omega)
theorem Pos.sq {m : M4} (h : Pos m) : Pos (m.tm ⟨-1, 0, 1, -1⟩) := by
  apply Pos.nrm
  obtain ⟨e, he, h1, h2, h3, h4, h5⟩ := h
  refine ⟨-e, by omega, ?_⟩
  rcases he with rfl | rfl <;> (simp only [M4.mul]; omega)
inductive Ev : List Nat → Prop
  | base (x : Nat) : x = 114 ∨ x = 113 → Ev [x, 115]
  | step (x : Nat) {st : List Nat} : x = 114 ∨ x = 113 → Ev st → Ev (x :: 115 :: st)
theorem Ev.pos {st : List Nat} (h : Ev st) : Pos (trn st.reverse) := by
  induction h with
  | base x hx =>
    rcases hx with rfl | rfl
    · exact ⟨1, .inl rfl, by decide, by decide, by decide, by decide, by decide⟩
    · exact ⟨-1, .inr rfl, by decide, by decide, by decide, by decide, by decide⟩
  | @step x st hx _ ih =>
    have e : (x :: 115 :: st).reverse = st.reverse ++ [115, x] := by simp
    rw [e, trn_app]
    rcases hx with rfl | rfl
    · exact ih.sr
    · exact ih.sq
theorem Ev.head {st : List Nat} (h : Ev st) : ∃ x t, st = x :: t ∧ x ≠ 115 := by
  cases h with
  | base x hx => exact ⟨x, _, rfl, by omega⟩
  | step x hx _ => exact ⟨x, _, rfl, by omega⟩
theorem shape : ∀ {st : List Nat}, Short st → ∃ a core b : List Nat, (a = [] ∨ a = [115]) ∧ (core = [] ∨ Ev core) ∧ (b = [] ∨ b = [114] ∨ b = [113]) ∧ st = a ++ core ++ b
  | [], _ => ⟨[], [], [], .inl rfl, .inl rfl, .inl rfl, rfl⟩
  | c :: t, h => by
    obtain ⟨a, core, b, ha, hc, hb, e⟩ := shape h.tail
    have lc := h.let_
    by_cases c5 : c = 115
    · subst c5
      rcases ha with rfl | rfl
      · exact ⟨[115], core, b, .inr rfl, hc, hb, by rw [e]; rfl⟩
      · rw [e] at h
        exact absurd rfl (h.head.mp rfl)
    · have cx : c = 114 ∨ c = 113 := by
        rcases lc with z | z
        · exact absurd z c5
        · exact z
      rcases ha with rfl | rfl
      · rcases hc with rfl | hc
        · rcases hb with rfl | hb
          · exact ⟨[], [], [c], .inl rfl, .inl rfl, .inr (by rcases cx with rfl | rfl <;> simp), by rw [e]; rfl⟩
          · exfalso
            rcases hb with rfl | rfl <;>
            · rw [e] at h
              exact c5 (h.head.mpr (by decide))
        · exfalso
          obtain ⟨x, u, rfl, hx⟩ := hc.head
          rw [e] at h
          exact c5 (h.head.mpr hx)
      · refine ⟨[], c :: 115 :: core, b, .inl rfl, .inr ?_, hb, by rw [e]; rfl⟩
        rcases hc with rfl | hc
        · exact Ev.base c cx
        · exact Ev.step c cx hc
theorem tm_def (x y : M4) : x.tm y = (x.mul y).nrm := rfl
theorem short_one {w : List Nat} (h : Short w) (ht : trn w = M4.one) : w = [] := by
  obtain ⟨a, core, b, ha, hc, hb, e⟩ := shape h.rev
  have e2 : w = b.reverse ++ (core.reverse ++ a.reverse) := by
    have := congrArg List.reverse e
    simpa using this
  rcases hc with rfl | hc
  · rw [e2] at ht ⊢
    rcases ha with rfl | rfl <;> rcases hb with rfl | rfl | rfl <;> first | rfl | exact absurd ht (by decide)
  · exfalso
    rw [e2, trn_app, trn_app] at ht
    have hp := hc.pos
    have hd := trn_det core.reverse
    generalize trn core.reverse = m at ht hp hd
    obtain ⟨e, he, h1, h2, h3, h4, h5⟩ := hp
    obtain ⟨x, y, z, t⟩ := m
    have hS : M4.S.det = 1 := rfl
    rcases ha with rfl | rfl
    · have e1 : trn ([] : List Nat).reverse = M4.one := rfl
      rw [e1, tm_def _ M4.one] at ht
      rcases hb with rfl | rfl | rfl
      · rw [show trn ([] : List Nat).reverse = M4.one from rfl, tm_def, M4.nrm_mul_r rfl (by rw [M4.det_mul, hd]; rfl), nrm_one] at ht
        simp only [M4.mul, M4.one, M4.mk.injEq] at ht
        rcases he with rfl | rfl <;> simp only at h1 h2 h3 h4 h5 <;> omega
      · rw [show trn [114].reverse = M4.R from by decide, tm_def, M4.nrm_mul_r rfl (by rw [M4.det_mul, hd]; rfl), nrm_one] at ht
        simp only [M4.mul, M4.one, M4.R, M4.mk.injEq] at ht
        rcases he with rfl | rfl <;> simp only at h1 h2 h3 h4 h5 <;> omega
      · rw [show trn [113].reverse = M4.Q from by decide, tm_def, M4.nrm_mul_r rfl (by rw [M4.det_mul, hd]; rfl), nrm_one] at ht
        simp only [M4.mul, M4.one, M4.Q, M4.mk.injEq] at ht
        rcases he with rfl | rfl <;> simp only at h1 h2 h3 h4 h5 <;> omega
    · have e1 : trn [115].reverse = M4.S := by decide
      rw [e1, tm_def _ M4.S] at ht
      rcases hb with rfl | rfl | rfl
      · rw [show trn ([] : List Nat).reverse = M4.one from rfl, tm_def, M4.nrm_mul_r rfl (by rw [M4.det_mul, hd]; rfl), nrm_one] at ht
        simp only [M4.mul, M4.one, M4.S, M4.mk.injEq] at ht
        rcases he with rfl | rfl <;> simp only at h1 h2 h3 h4 h5 <;> omega
      · rw [show trn [114].reverse = M4.R from by decide, tm_def, M4.nrm_mul_r rfl (by rw [M4.det_mul, hd]; rfl), nrm_one] at ht
        simp only [M4.mul, M4.one, M4.R, M4.S, M4.mk.injEq] at ht
        rcases he with rfl | rfl <;> simp only at h1 h2 h3 h4 h5 <;> omega
      · rw [show trn [113].reverse = M4.Q from by decide, tm_def, M4.nrm_mul_r rfl (by rw [M4.det_mul, hd]; rfl), nrm_one] at ht
        simp only [M4.mul, M4.one, M4.Q, M4.S, M4.mk.injEq] at ht
        rcases he with rfl | rfl <;> simp only at h1 h2 h3 h4 h5 <;> omega
theorem tm_cancel {x y z : M4} (hx : x.det = 1) (hy : y.det = 1) (hz : z.det = 1) (uy : ¬ y.down) (uz : ¬ z.down) (h : x.tm y = x.tm z) : y = z := by
  have := congrArg (fun m => x.inv.tm m) h
  rw [← M4.tm_assoc (M4.det_inv hx) hx hy, ← M4.tm_assoc (M4.det_inv hx) hx hz, M4.inv_tm hx, M4.one_tm uy, M4.one_tm uz] at this
  exact this
theorem short_inj : ∀ {u v : List Nat}, Short u → Short v → trn u = trn v → u = v
  | [], v, _, hv, h => (short_one hv h.symm).symm
  | c :: u, [], hu, _, h => short_one hu h
  | c :: u, d :: v, hu, hv, h => by
    by_cases hcd : c = d
    · subst hcd
      rw [trn_cons, trn_cons] at h
      rw [short_inj hu.tail hv.tail (tm_cancel (letM_det c) (trn_det u) (trn_det v) (trn_up u) (trn_up v) h)]
    · exfalso
      by_cases hs : c = 115 ↔ ¬ d = 115
      · have hw : Short (undo (c :: u) ++ (d :: v)) := (short_undo hu).app hv fun x y h1 h2 => by
          have : undo (c :: u) = undo u ++ [opp c] := by simp [undo]
          rw [this, List.getLast?_append] at h1
          simp at h1 h2
          subst h1 h2
          rw [opp_s hu.let_]
          exact hs
        have := short_one hw (by rw [trn_app, trn_undo hu.1, h, M4.inv_tm (trn_det _)])
        simp at this
      · have hcx : (c = 114 ∧ d = 113) ∨ (c = 113 ∧ d = 114) := by
          have h1 := hu.let_
          have h2 := hv.let_
          unfold isLet at h1 h2
          omega
        have hw : Short (undo u ++ (c :: v)) := (short_undo hu.tail).app (by
          cases v with
          | nil => exact Short.one hu.let_
          | cons y v =>
            refine hv.tail.cons hu.let_ ?_
            have := hv.head
            omega) fun x y h1 h2 => by
          simp at h2
          subst h2
          cases u with
          | nil => simp [undo] at h1
          | cons z u =>
            have e : undo (z :: u) = undo u ++ [opp z] := by simp [undo]
            rw [e, List.getLast?_append] at h1
            simp at h1
            subst h1
            have := hu.head
            rw [opp_s hu.tail.let_]
            omega
        have key : (letM c).tm (letM c) = (letM c).inv := by rcases hcx with ⟨rfl, rfl⟩ | ⟨rfl, rfl⟩ <;> decide
        have ed : letM d = (letM c).inv := by rcases hcx with ⟨rfl, rfl⟩ | ⟨rfl, rfl⟩ <;> decide
        have e1 : trn u = (letM c).tm (trn v) := by
          rw [trn_cons, trn_cons, ed] at h
          refine tm_cancel (x := letM c) (letM_det c) (trn_det u) (M4.det_tm (letM_det c) (trn_det v)) (trn_up u) (M4.tm_up (letM_det c) (trn_det v)) ?_
          rw [h, ← M4.tm_assoc (letM_det c) (letM_det c) (trn_det v), key]
        have := short_one hw (by rw [trn_app, trn_undo hu.tail.1, trn_cons, ← e1, M4.inv_tm (trn_det _)])
        simp at this
end DL

set_option Elab.async false
set_option maxRecDepth 100000
set_option maxHeartbeats 4000000
namespace DL
open PySem L2
/-! ### letters put behind one another -/
def pw (c : Nat) : Nat := if c = 114 then 1 else 2
def third (k : Nat) : List Nat := if k = 0 then [] else if k = 1 then [114] else [113]
def pbS : List Nat → Nat → List Nat
  | [], c => [c]
  | b :: t, c => if decide (b = 115) ≠ decide (c = 115) then c :: b :: t else if c = 115 then t else third ((pw b + pw c) % 3) ++ t
def runS (st l : List Nat) : List Nat := l.foldl pbS st
def red (w : List Nat) : List Nat := (runS [] w).reverse
theorem pb_cons (b c : Nat) (t : List Nat) : pbS (b :: t) c = if decide (b = 115) ≠ decide (c = 115) then c :: b :: t else if c = 115 then t else third ((pw b + pw c) % 3) ++ t := rfl
theorem pb_push {b c : Nat} {t : List Nat} (h : ¬ (b = 115 ↔ c = 115)) : pbS (b :: t) c = c :: b :: t := by
  rw [pb_cons, if_pos]
  intro e
  apply h
  have := decide_eq_decide.mp e
  exact this
theorem pb_pop {t : List Nat} : pbS (115 :: t) 115 = t := rfl
theorem pb_third {b c : Nat} {t : List Nat} (hb : b ≠ 115) (hc : c ≠ 115) : pbS (b :: t) c = third ((pw b + pw c) % 3) ++ t := by
  rw [pb_cons, if_neg (by simp [hb, hc]), if_neg hc]
theorem pbS_short {st : List Nat} {c : Nat} (h : Short st) (hc : isLet c) : Short (pbS st c) := by
  cases st with
  | nil => exact Short.one hc
  | cons b t =>
    by_cases h1 : b = 115 ↔ c = 115
    · by_cases h2 : c = 115
      · have hb := h1.mpr h2
        subst h2 hb
        exact h.tail
      · have hb : b ≠ 115 := fun z => h2 (h1.mp z)
        rw [pb_third hb h2]
        have key : ∀ x, isLet x → x ≠ 115 → Short (x :: t) := fun x hx hn => by
          cases t with
          | nil => exact Short.one hx
          | cons d t =>
            refine h.tail.cons hx ?_
            have := h.head
            omega
        unfold third
        split
        · exact h.tail
        · split
          · exact key 114 (.inr (.inl rfl)) (by decide)
          · exact key 113 (.inr (.inr rfl)) (by decide)
    · rw [pb_push h1]
      exact h.cons hc (by omega)
theorem pbS_trn {st : List Nat} {c : Nat} (h : Short st) (hc : isLet c) : trn (pbS st c).reverse = (trn st.reverse).tm (letM c) := by
  cases st with
  | nil =>
    show trn [c] = M4.one.tm (letM c)
    rw [trn_one, M4.one_tm (letM_up c)]
  | cons b t =>
    have hd := trn_det t.reverse
    have hu := trn_up t.reverse
    have e0 : trn (b :: t).reverse = (trn t.reverse).tm (letM b) := by
      rw [List.reverse_cons, trn_app, trn_one]
    by_cases h1 : b = 115 ↔ c = 115
    · by_cases h2 : c = 115
      · have hb := h1.mpr h2
        subst h2 hb
        rw [pb_pop, e0, M4.tm_assoc hd (letM_det 115) (letM_det 115), show (letM 115).tm (letM 115) = M4.one from by decide, M4.tm_one hu]
      · have hb : b ≠ 115 := fun z => h2 (h1.mp z)
        rw [pb_third hb h2, e0, M4.tm_assoc hd (letM_det b) (letM_det c), List.reverse_append, trn_app]
        have hbx : b = 114 ∨ b = 113 := by
          have := h.let_
          unfold isLet at this
          omega
        have hcx : c = 114 ∨ c = 113 := by
          unfold isLet at hc
          omega
        congr 1
        rcases hbx with rfl | rfl <;> rcases hcx with rfl | rfl <;> decide
    · rw [pb_push h1, List.reverse_cons, trn_app, trn_one]
theorem runS_ok : ∀ {l st : List Nat}, Short st → (∀ c ∈ l, isLet c) → Short (runS st l) ∧ trn (runS st l).reverse = (trn st.reverse).tm (trn l)
  | [], st, h, _ => ⟨h, by
    show trn st.reverse = (trn st.reverse).tm M4.one
    rw [M4.tm_one (trn_up _)]⟩
  | c :: l, st, h, hl => by
    have hc := hl c List.mem_cons_self
    obtain ⟨h1, h2⟩ := runS_ok (l := l) (pbS_short h hc) fun x hx => hl x (List.mem_cons_of_mem _ hx)
    refine ⟨h1, ?_⟩
    show trn (runS (pbS st c) l).reverse = _
    rw [h2, pbS_trn h hc, trn_cons, M4.tm_assoc (trn_det _) (letM_det c) (trn_det l)]
theorem red_short {w : List Nat} (h : ∀ c ∈ w, isLet c) : Short (red w) := (runS_ok Short.nil h).1.rev
theorem red_trn {w : List Nat} (h : ∀ c ∈ w, isLet c) : trn (red w) = trn w := by
  have := (runS_ok (st := []) Short.nil h).2
  unfold red
  rw [this]
  exact M4.one_tm (trn_up w)
theorem red_of {w u : List Nat} (h : ∀ c ∈ w, isLet c) (hu : Short u) (e : trn w = trn u) : red w = u := short_inj (red_short h) hu ((red_trn h).trans e)
theorem runS_app (st l k : List Nat) : runS st (l ++ k) = runS (runS st l) k := List.foldl_append ..
theorem third_len (k : Nat) : (third k).length ≤ 1 := by
  unfold third
  split
  · decide
  · split <;> decide
theorem pbS_len (st : List Nat) (c : Nat) : (pbS st c).length ≤ st.length + 1 := by
  cases st with
  | nil => simp [pbS]
  | cons b t =>
    rw [pb_cons]
    split
    · simp
    · split
      · simp; omega
      · have := third_len ((pw b + pw c) % 3)
        simp only [List.length_append, List.length_cons]
        omega
theorem runS_len : ∀ (l st : List Nat), (runS st l).length ≤ st.length + l.length
  | [], st => by simp [runS]
  | c :: l, st => by
    have h1 := runS_len l (pbS st c)
    have h2 := pbS_len st c
    show (runS (pbS st c) l).length ≤ _
    simp only [List.length_cons]
    omega
theorem red_len (w : List Nat) : (red w).length ≤ w.length := by
  unfold red
  rw [List.length_reverse]
  have := runS_len w []
  simpa using this
/-! ### whole steps -/
def qs (n : Nat) : List Nat := (List.replicate n [113, 115]).flatten
def sr (n : Nat) : List Nat := (List.replicate n [115, 114]).flatten
def stp (n : Int) : List Nat := if 0 < n then qs n.toNat else sr (-n).toNat
theorem qs_succ (n : Nat) : qs (n + 1) = 113 :: 115 :: qs n := rfl
theorem sr_succ (n : Nat) : sr (n + 1) = 115 :: 114 :: sr n := rfl
theorem qs_len : ∀ n, (qs n).length = 2 * n
  | 0 => rfl
  | n + 1 => by rw [qs_succ, List.length_cons, List.length_cons, qs_len n]; omega
theorem sr_len : ∀ n, (sr n).length = 2 * n
  | 0 => rfl
  | n + 1 => by rw [sr_succ, List.length_cons, List.length_cons, sr_len n]; omega
theorem stp_len (n : Int) : (stp n).length = 2 * n.natAbs := by
  unfold stp
  split
  · rw [qs_len]; omega
  · rw [sr_len]; omega
theorem qs_let : ∀ n, ∀ c ∈ qs n, isLet c
  | 0 => by intro c hc; cases hc
  | n + 1 => by
    intro c hc
    rw [qs_succ] at hc
    rcases List.mem_cons.mp hc with rfl | hc
    · exact .inr (.inr rfl)
    rcases List.mem_cons.mp hc with rfl | hc
    · exact .inl rfl
    · exact qs_let n c hc
theorem sr_let : ∀ n, ∀ c ∈ sr n, isLet c
  | 0 => by intro c hc; cases hc
  | n + 1 => by
    intro c hc
    rw [sr_succ] at hc
    rcases List.mem_cons.mp hc with rfl | hc
    · exact .inl rfl
    rcases List.mem_cons.mp hc with rfl | hc
    · exact .inr (.inl rfl)
    · exact sr_let n c hc
theorem stp_let (n : Int) : ∀ c ∈ stp n, isLet c := by
  unfold stp
  split
  · exact qs_let _
  · exact sr_let _
theorem qs_trn : ∀ n : Nat, trn (qs n) = ⟨1, n, 0, 1⟩
  | 0 => rfl
  | n + 1 => by
    rw [qs_succ, show 113 :: 115 :: qs n = [113, 115] ++ qs n from rfl, trn_app, qs_trn n, show trn [113, 115] = ⟨1, 1, 0, 1⟩ from by decide]
    unfold M4.tm M4.mul
    rw [M4.nrm_id (by unfold M4.down; simp)]
    simp only [M4.mk.injEq]
    omega
theorem sr_trn : ∀ n : Nat, trn (sr n) = ⟨1, -(n : Int), 0, 1⟩
  | 0 => rfl
  | n + 1 => by
    rw [sr_succ, show 115 :: 114 :: sr n = [115, 114] ++ sr n from rfl, trn_app, sr_trn n, show trn [115, 114] = ⟨1, -1, 0, 1⟩ from by decide]
    unfold M4.tm M4.mul
    rw [M4.nrm_id (by unfold M4.down; simp)]
    simp only [M4.mk.injEq]
    omega
theorem stp_trn (n : Int) : trn (stp n) = ⟨1, n, 0, 1⟩ := by
  unfold stp
  split
  · rw [qs_trn, show (n.toNat : Int) = n by omega]
  · rw [sr_trn, show -(((-n).toNat : Nat) : Int) = n by omega]
/-! ### a turning by whole steps -/
def wrd : List Int → List Nat
  | [] => []
  | [n] => stp n
  | n :: k :: ns => stp n ++ 115 :: wrd (k :: ns)
def raw : List Int → Nat
  | [] => 0
  | [n] => 2 * n.natAbs
  | n :: k :: ns => 2 * n.natAbs + 1 + raw (k :: ns)
theorem wrd_let : ∀ ns : List Int, ∀ c ∈ wrd ns, isLet c
  | [] => by intro c hc; cases hc
  | [n] => stp_let n
  | n :: k :: ns => by
    intro c hc
    unfold wrd at hc
    rcases List.mem_append.mp hc with h | h
    · exact stp_let n c h
    · rcases List.mem_cons.mp h with rfl | h
      · exact .inl rfl
      · exact wrd_let (k :: ns) c h
theorem wrd_len : ∀ ns : List Int, (wrd ns).length = raw ns
  | [] => rfl
  | [n] => stp_len n
  | n :: k :: ns => by
    unfold wrd raw
    rw [List.length_append, List.length_cons, stp_len, wrd_len (k :: ns)]
    omega
theorem mod_lt {a c : Int} (h : 0 < c) : 0 ≤ a - a.fdiv c * c ∧ a - a.fdiv c * c < c := by
  rw [Int.fdiv_eq_ediv_of_nonneg _ (by omega)]
  have h1 := Int.emod_nonneg a (show c ≠ 0 by omega)
  have h2 := Int.emod_lt_of_pos a h
  have h3 := Int.emod_add_mul_ediv a c
  rw [Int.mul_comm]
  omega
def nxt (m : M4) : M4 := ⟨-m.c, -m.d, m.a - m.a.fdiv m.c * m.c, m.b - m.a.fdiv m.c * m.d⟩
def expn (m : M4) : List Int := if h : 0 < m.c then m.a.fdiv m.c :: expn (nxt m) else [m.b * m.d]
termination_by m.c.toNat
decreasing_by
  have := mod_lt (a := m.a) h
  simp only [nxt]
  omega
theorem expn_pos {m : M4} (h : 0 < m.c) : expn m = m.a.fdiv m.c :: expn (nxt m) := by
  rw [expn, dif_pos h]
theorem expn_zero {m : M4} (h : ¬ 0 < m.c) : expn m = [m.b * m.d] := by
  rw [expn, dif_neg h]
theorem expn_cons (m : M4) : ∃ n ns, expn m = n :: ns := by
  rw [expn]
  split <;> exact ⟨_, _, rfl⟩
theorem nxt_det {m : M4} (h : m.det = 1) : (nxt m).det = 1 := by
  unfold M4.det nxt at *
  dsimp only at *
  grind
theorem nxt_c {m : M4} (h : 0 < m.c) : 0 ≤ (nxt m).c ∧ (nxt m).c < m.c := mod_lt h
theorem expn_trn : ∀ (N : Nat) (m : M4), m.c.toNat ≤ N → m.det = 1 → 0 ≤ m.c → trn (wrd (expn m)) = m.nrm := by
  intro N
  induction N with
  | zero =>
    intro m hN hd hc
    have c0 : m.c = 0 := by omega
    rw [expn_zero (by omega)]
    show trn (stp _) = _
    rw [stp_trn]
    obtain ⟨a, b, c, d⟩ := m
    dsimp only at *
    subst c0
    have had : a * d = 1 := by simpa [M4.det] using hd
    rcases unit_of had with ⟨rfl, rfl⟩ | ⟨rfl, rfl⟩
    · rw [M4.nrm_id (by unfold M4.down; simp)]
      simp
    · unfold M4.nrm
      rw [if_pos (by unfold M4.down; simp)]
      simp [M4.neg]
  | succ N ih =>
    intro m hN hd hc
    by_cases h : 0 < m.c
    · obtain ⟨h1, h2⟩ := nxt_c h
      have e := ih (nxt m) (by omega) (nxt_det hd) h1
      obtain ⟨n, ns, en⟩ := expn_cons (nxt m)
      rw [expn_pos h]
      rw [en] at e ⊢
      show trn (stp _ ++ 115 :: wrd (n :: ns)) = _
      rw [trn_app, trn_cons, e, stp_trn]
      have hS : (letM 115).det = 1 := rfl
      have hT : (⟨1, m.a.fdiv m.c, 0, 1⟩ : M4).det = 1 := by simp [M4.det]
      unfold M4.tm
      rw [M4.nrm_mul_r hS (nxt_det hd), M4.nrm_mul_r hT (by rw [M4.det_mul, hS, nxt_det hd]; rfl), ← M4.nrm_neg hd]
      congr 1
      obtain ⟨a, b, c, d⟩ := m
      simp only [M4.mul, M4.neg, nxt, letM, M4.S, if_true, M4.mk.injEq]
      refine ⟨?_, ?_, ?_, ?_⟩ <;> grind
    · exact ih m (by omega) hd hc
/-- steps behind the first -/
def Mid : List Int → Prop
  | [] => True
  | [_] => True
  | n :: k :: ns => n ≤ -2 ∧ Mid (k :: ns)
theorem expn_mid : ∀ (N : Nat) (m : M4), m.c.toNat ≤ N → 0 ≤ m.c → m.c < -m.a → Mid (expn m) := by
  intro N
  induction N with
  | zero =>
    intro m hN hc ha
    rw [expn_zero (by omega)]
    trivial
  | succ N ih =>
    intro m hN hc ha
    by_cases h : 0 < m.c
    · obtain ⟨h1, h2⟩ := nxt_c h
      have e := ih (nxt m) (by omega) h1 (by show _ < - -m.c; omega)
      obtain ⟨n, ns, en⟩ := expn_cons (nxt m)
      rw [expn_pos h]
      rw [en] at e ⊢
      refine ⟨?_, e⟩
      have hm := mod_lt (a := m.a) h
      generalize m.a.fdiv m.c = q at *
      have hq : q * m.c ≤ m.a := by omega
      rcases Int.lt_or_le q (-1) with z | z
      · omega
      · have := Int.mul_le_mul_of_nonneg_right z (show 0 ≤ m.c by omega)
        omega
    · rw [expn_zero h]
      trivial
/-! ### how many letters are left -/
theorem run_sr : ∀ (n : Nat) (st : List Nat), st.head? ≠ some 115 → (runS st (sr n)).length = st.length + 2 * n ∧ (0 < n → ∃ t, runS st (sr n) = 114 :: t)
  | 0, st, _ => ⟨rfl, fun h => absurd h (by decide)⟩
  | n + 1, st, h => by
    have e1 : runS st (sr (n + 1)) = runS (114 :: 115 :: st) (sr n) := by
      rw [sr_succ]
      show runS (pbS (pbS st 115) 114) (sr n) = _
      have : pbS st 115 = 115 :: st := by
        cases st with
        | nil => rfl
        | cons b t =>
          have hb : b ≠ 115 := fun z => h (by rw [z]; rfl)
          exact pb_push (by simp [hb])
      rw [this, pb_push (by decide)]
    obtain ⟨h1, h2⟩ := run_sr n (114 :: 115 :: st) (by simp)
    rw [e1]
    refine ⟨by rw [h1]; simp only [List.length_cons]; omega, fun _ => ?_⟩
    cases n with
    | zero => exact ⟨_, rfl⟩
    | succ n => exact h2 (by omega)
theorem run_qs : ∀ (n : Nat) (st : List Nat), (∀ b ∈ st.head?, b = 115) → (runS st (qs n)).length = st.length + 2 * n ∧ (0 < n → ∃ t, runS st (qs n) = 115 :: 113 :: t)
  | 0, st, _ => ⟨rfl, fun h => absurd h (by decide)⟩
  | n + 1, st, h => by
    have e1 : runS st (qs (n + 1)) = runS (115 :: 113 :: st) (qs n) := by
      rw [qs_succ]
      show runS (pbS (pbS st 113) 115) (qs n) = _
      have : pbS st 113 = 113 :: st := by
        cases st with
        | nil => rfl
        | cons b t =>
          have hb : b = 115 := h b rfl
          subst hb
          exact pb_push (by decide)
      rw [this, pb_push (by decide)]
    obtain ⟨h1, h2⟩ := run_qs n (115 :: 113 :: st) (by simp)
    rw [e1]
    refine ⟨by rw [h1]; simp only [List.length_cons]; omega, fun _ => ?_⟩
    cases n with
    | zero => exact ⟨_, rfl⟩
    | succ n => exact h2 (by omega)
/-- a joint and steps back behind an r -/
theorem run_joint (t : List Nat) (m : Nat) : (runS (114 :: t) (115 :: sr (m + 1))).length = t.length + 1 + 2 * m ∧ (0 < m → ∃ u, runS (114 :: t) (115 :: sr (m + 1)) = 114 :: u) := by
  have e : runS (114 :: t) (115 :: sr (m + 1)) = runS (113 :: t) (sr m) := by
    rw [sr_succ]
    show runS (pbS (pbS (pbS (114 :: t) 115) 115) 114) (sr m) = _
    rw [pb_push (by decide), pb_pop, pb_third (by decide) (by decide)]
    rfl
  obtain ⟨h1, h2⟩ := run_sr m (113 :: t) (by simp)
  rw [e]
  exact ⟨by rw [h1]; simp, h2⟩
theorem run_mid : ∀ (ns : List Int) (n : Int) (t : List Nat), Mid (n :: ns) → 5 * (t.length + 1) + 2 * (raw (n :: ns) + 1) ≤ 5 * (runS (114 :: t) (115 :: wrd (n :: ns))).length + 6
  | [], n, t, _ => by
    show 5 * (t.length + 1) + 2 * (2 * n.natAbs + 1) ≤ 5 * (runS (114 :: t) (115 :: stp n)).length + 6
    unfold stp
    by_cases h : 0 < n
    · rw [if_pos h]
      have e : runS (114 :: t) (115 :: qs n.toNat) = runS (115 :: 114 :: t) (qs n.toNat) := by
        show runS (pbS (114 :: t) 115) _ = _
        rw [pb_push (by decide)]
      obtain ⟨h1, _⟩ := run_qs n.toNat (115 :: 114 :: t) (by simp)
      rw [e, h1]
      simp only [List.length_cons]
      omega
    · rw [if_neg h]
      cases hm : (-n).toNat with
      | zero =>
        have e : runS (114 :: t) (115 :: sr 0) = 115 :: 114 :: t := by
          show pbS (114 :: t) 115 = _
          rw [pb_push (by decide)]
        rw [e]
        simp only [List.length_cons]
        omega
      | succ m =>
        rw [(run_joint t m).1]
        omega
  | k :: ns, n, t, h => by
    obtain ⟨h1, h2⟩ := h
    show 5 * (t.length + 1) + 2 * (2 * n.natAbs + 1 + raw (k :: ns) + 1) ≤ 5 * (runS (114 :: t) (115 :: (stp n ++ 115 :: wrd (k :: ns)))).length + 6
    unfold stp
    rw [if_neg (by omega)]
    obtain ⟨m, hm⟩ : ∃ m, (-n).toNat = m + 1 + 1 := ⟨(-n).toNat - 2, by omega⟩
    rw [hm]
    obtain ⟨j1, j2⟩ := run_joint t (m + 1)
    obtain ⟨u, hu⟩ := j2 (by omega)
    have e : runS (114 :: t) (115 :: (sr (m + 1 + 1) ++ 115 :: wrd (k :: ns))) = runS (114 :: u) (115 :: wrd (k :: ns)) := by
      rw [show 115 :: (sr (m + 1 + 1) ++ 115 :: wrd (k :: ns)) = (115 :: sr (m + 1 + 1)) ++ 115 :: wrd (k :: ns) from rfl, runS_app, hu]
    have ih := run_mid ns k u h2
    rw [e]
    rw [hu] at j1
    simp only [List.length_cons] at j1
    omega
theorem run_back {k : Int} {ns : List Int} {st : List Nat} (h : st.head? ≠ some 115) (hk : k < 0) (hm : Mid (k :: ns)) : 5 * st.length + 2 * raw (k :: ns) ≤ 5 * (runS st (wrd (k :: ns))).length + 6 := by
  obtain ⟨a, ha⟩ : ∃ a, (-k).toNat = a + 1 := ⟨(-k).toNat - 1, by omega⟩
  obtain ⟨l1, l2⟩ := run_sr (a + 1) st h
  obtain ⟨t, ht⟩ := l2 (by omega)
  have e : runS st (stp k) = 114 :: t := by
    unfold stp
    rw [if_neg (by omega), ha, ht]
  rw [ht] at l1
  simp only [List.length_cons] at l1
  cases ns with
  | nil =>
    show 5 * st.length + 2 * (2 * k.natAbs) ≤ 5 * (runS st (stp k)).length + 6
    rw [e]
    simp only [List.length_cons]
    omega
  | cons j ns =>
    have := run_mid ns j t hm.2
    show 5 * st.length + 2 * (2 * k.natAbs + 1 + raw (j :: ns)) ≤ 5 * (runS st (stp k ++ 115 :: wrd (j :: ns))).length + 6
    rw [runS_app, e]
    omega
theorem run_zero {k : Int} {ns : List Int} (hm : Mid (k :: ns)) : 2 * (1 + raw (k :: ns)) ≤ 5 * (runS [] (115 :: wrd (k :: ns))).length + 15 := by
  by_cases hk : k < 0
  · obtain ⟨a, ha⟩ : ∃ a, (-k).toNat = a + 1 := ⟨(-k).toNat - 1, by omega⟩
    obtain ⟨l1, l2⟩ := run_sr a [114] (by simp)
    have e : ∀ l, runS [] (115 :: (stp k ++ l)) = runS (runS [114] (sr a)) l := fun l => by
      unfold stp
      rw [if_neg (by omega), ha, sr_succ, ← runS_app]
      rfl
    simp only [List.length_cons, List.length_nil] at l1
    cases ns with
    | nil =>
      have e' := e []
      rw [List.append_nil] at e'
      show 2 * (1 + 2 * k.natAbs) ≤ 5 * (runS [] (115 :: stp k)).length + 15
      rw [e']
      show 2 * (1 + 2 * k.natAbs) ≤ 5 * (runS [114] (sr a)).length + 15
      omega
    | cons j ns =>
      have h2 := hm.1
      obtain ⟨t, ht⟩ := l2 (by omega)
      have := run_mid ns j t hm.2
      show 2 * (1 + (2 * k.natAbs + 1 + raw (j :: ns))) ≤ 5 * (runS [] (115 :: (stp k ++ 115 :: wrd (j :: ns)))).length + 15
      rw [e, ht]
      rw [ht] at l1
      simp only [List.length_cons] at l1
      omega
  · cases ns with
    | nil =>
      show 2 * (1 + 2 * k.natAbs) ≤ 5 * (runS [] (115 :: stp k)).length + 15
      unfold stp
      by_cases h0 : 0 < k
      · rw [if_pos h0]
        have e : runS [] (115 :: qs k.toNat) = runS [115] (qs k.toNat) := rfl
        rw [e, (run_qs k.toNat [115] (by simp)).1]
        simp only [List.length_cons, List.length_nil]
        omega
      · have : k = 0 := by omega
        subst this
        decide
    | cons j ns => exact absurd hm.1 (by omega)
theorem run_up {n k : Int} {ns : List Int} (hn : 0 < n) (hm : Mid (k :: ns)) : 2 * (2 * n.natAbs + 1 + raw (k :: ns)) ≤ 5 * (runS [] (stp n ++ 115 :: wrd (k :: ns))).length + 15 := by
  obtain ⟨l1, l2⟩ := run_qs n.toNat [] (by simp)
  obtain ⟨t, ht⟩ := l2 (by omega)
  have e : runS [] (stp n ++ 115 :: wrd (k :: ns)) = runS (113 :: t) (wrd (k :: ns)) := by
    rw [runS_app]
    unfold stp
    rw [if_pos hn, ht]
    rfl
  rw [ht] at l1
  simp only [List.length_cons, List.length_nil] at l1
  rw [e]
  by_cases hk : k < 0
  · have := run_back (st := 113 :: t) (by simp) hk hm
    simp only [List.length_cons] at this
    omega
  · cases ns with
    | nil =>
      show 2 * (2 * n.natAbs + 1 + 2 * k.natAbs) ≤ 5 * (runS (113 :: t) (stp k)).length + 15
      unfold stp
      by_cases h0 : 0 < k
      · rw [if_pos h0]
        obtain ⟨a, ha⟩ : ∃ a, k.toNat = a + 1 := ⟨k.toNat - 1, by omega⟩
        have e2 : runS (113 :: t) (qs (a + 1)) = runS (115 :: 114 :: t) (qs a) := by
          rw [qs_succ]
          show runS (pbS (pbS (113 :: t) 113) 115) (qs a) = _
          rw [pb_third (by decide) (by decide)]
          show runS (pbS (114 :: t) 115) (qs a) = _
          rw [pb_push (by decide)]
        rw [ha, e2, (run_qs a (115 :: 114 :: t) (by simp)).1]
        simp only [List.length_cons]
        omega
      · have : k = 0 := by omega
        subst this
        show _ ≤ 5 * (113 :: t).length + 15
        simp only [List.length_cons]
        omega
    | cons j ns => exact absurd hm.1 (by omega)
theorem raw_le {m : M4} (hc : 0 ≤ m.c) : 2 * raw (expn m) ≤ 5 * (red (wrd (expn m))).length + 15 := by
  unfold red
  rw [List.length_reverse]
  by_cases h : 0 < m.c
  · rw [expn_pos h]
    obtain ⟨h1, h2⟩ := nxt_c h
    have mid := expn_mid _ (nxt m) (Nat.le_refl _) h1 (by show _ < - -m.c; omega)
    obtain ⟨k, ns, en⟩ := expn_cons (nxt m)
    rw [en] at mid ⊢
    generalize m.a.fdiv m.c = n
    show 2 * (2 * n.natAbs + 1 + raw (k :: ns)) ≤ 5 * (runS [] (stp n ++ 115 :: wrd (k :: ns))).length + 15
    by_cases n0 : n < 0
    · rw [runS_app]
      obtain ⟨a, ha⟩ : ∃ a, (-n).toNat = a + 1 := ⟨(-n).toNat - 1, by omega⟩
      obtain ⟨l1, l2⟩ := run_sr (a + 1) [] (by simp)
      obtain ⟨t, ht⟩ := l2 (by omega)
      have e : runS [] (stp n) = 114 :: t := by
        unfold stp
        rw [if_neg (by omega), ha, ht]
      have := run_mid ns k t mid
      rw [e]
      rw [ht] at l1
      simp only [List.length_cons, List.length_nil] at l1
      omega
    · by_cases n1 : 0 < n
      · exact run_up n1 mid
      · have : n = 0 := by omega
        subst this
        have := run_zero mid
        exact this
  · rw [expn_zero h]
    show 2 * (2 * (m.b * m.d).natAbs) ≤ 5 * (runS [] (stp (m.b * m.d))).length + 15
    generalize m.b * m.d = n
    unfold stp
    split
    · rw [(run_qs n.toNat [] (by simp)).1]
      simp
      omega
    · rw [(run_sr (-n).toNat [] (by simp)).1]
      simp
      omega
end DL

set_option Elab.async false
set_option maxRecDepth 100000
set_option maxHeartbeats 4000000
namespace DL
open PySem L2
/-! ### running: lent lists, tables, texts -/
def lntR (i : Nat) (tag : Option Nat) (ρ : Rho) : Option (List D × D) → Out R
  | some p => if scalD p.2 = true then .ok (.tmp (.val p.2)) (ρ.set i (some (.lst tag p.1))) else .bad
  | none => .bad
def lntO (f : List D → List D → Option (List D × D)) (i : Nat) (ρ : Rho) : Option (Option T) → Option (List D) → Out R
  | some (some (.lst tag es)), some ds => if ds.all scalD = true then lntR i tag ρ (f es ds) else .bad
  | _, _ => .bad
@[simp] theorem callLM_ap (f : List D → List D → Option (List D × D)) (i : Nat) (rs : List R) (ρ : Rho) : callLM f (.slot i :: rs) ρ = lntO f i ρ ρ[i]? (looks rs ρ) := by
  unfold callLM
  dsimp only
  generalize ρ[i]? = a
  generalize looks rs ρ = b
  match a with
  | none => rfl
  | some none => rfl
  | some (some (.val _)) => rfl
  | some (some (.lst tag es)) =>
    cases b with
    | none => rfl
    | some ds =>
      show (if _ then _ else _) = lntO f i ρ (some (some (.lst tag es))) (some ds)
      unfold lntO
      by_cases h : ds.all scalD = true
      · simp only [if_pos h]
        cases h2 : f es ds <;> simp only [h2] <;> rfl
      · simp only [if_neg h]
@[simp] theorem lntO_ok (f : List D → List D → Option (List D × D)) (i : Nat) (ρ : Rho) (tag : Option Nat) (es ds : List D) : lntO f i ρ (some (some (.lst tag es))) (some ds) = if ds.all scalD = true then lntR i tag ρ (f es ds) else .bad := (rfl)
@[simp] theorem lntR_some (i : Nat) (tag : Option Nat) (ρ : Rho) (es : List D) (d : D) : lntR i tag ρ (some (es, d)) = if scalD d = true then .ok (.tmp (.val d)) (ρ.set i (some (.lst tag es))) else .bad := (rfl)
def tixR (ρ : Rho) : Option D → Out R
  | some d => .ok (.tmp (.val d)) ρ
  | none => .bad
def tixO (kvs : List (Str × D)) (ρ : Rho) : Option D → Out R
  | some (.str z) => tixR ρ (kvs.lookup z)
  | _ => .bad
@[simp] theorem tabIx_ap (kvs : List (Str × D)) (r : R) (ρ : Rho) : tabIx kvs r ρ = tixO kvs ρ (look r ρ) := by
  unfold tabIx
  generalize look r ρ = a
  match a with
  | none => rfl
  | some (.str z) =>
    show _ = tixR ρ (kvs.lookup z)
    cases h : kvs.lookup z <;> simp only [h] <;> rfl
  | some .none => rfl
  | some (.bool _) => rfl
  | some (.int _) => rfl
  | some (.list _) => rfl
  | some (.tuple _) => rfl
  | some (.dict _) => rfl
@[simp] theorem tixO_str (kvs : List (Str × D)) (ρ : Rho) (z : Str) : tixO kvs ρ (some (.str z)) = tixR ρ (kvs.lookup z) := (rfl)
@[simp] theorem tixR_some (ρ : Rho) (d : D) : tixR ρ (some d) = .ok (.tmp (.val d)) ρ := (rfl)
@[simp] theorem fListU_l (ds : List D) : fListU [.list ds] = some (.lst none ds) := (rfl)
@[simp] theorem fListU_t (ds : List D) : fListU [.tuple ds] = some (.lst none ds) := (rfl)
@[simp] theorem fListU_s (z : Str) (h : z.length ≤ 16777216) : fListU [.str z] = some (.lst none (signs z)) := if_pos (sizeLine_big h)
@[simp] theorem fMulS_si (a : Str) (n : Int) : fMulS (.str a) (.int n) = if mulOkB a n = true then some (.val (.str (Txt.mul a n))) else none := (rfl)
@[simp] theorem fAddI_ii (i j : Int) : fAddI (.int i) (.int j) = some (.val (.int (i + j))) := (rfl)
def chtO (T : String) (ρ : Rho) : Option D → Out Unit
  | some d => if tyT d = T then .ok () ρ else .bad
  | none => .bad
@[simp] theorem chkT_ap (T : String) (r : R) (ρ : Rho) : chkT T r ρ = chtO T ρ (look r ρ) := (rfl)
@[simp] theorem chtO_str (ρ : Rho) (z : Str) : chtO "str" ρ (some (.str z)) = .ok () ρ := (rfl)
def mnR (ρ : Rho) : Option T → Out R
  | some t => .ok (.tmp t) ρ
  | none => .bad
def mnO (g : D → List D → Option T) (ρ : Rho) : Option D → Option (List D) → Out R
  | some d, some ds => mnR ρ (g d ds)
  | _, _ => .bad
@[simp] theorem opMN_ap (g : D → List D → Option T) (ro : R) (rs : List R) (ρ : Rho) : opMN g ro rs ρ = mnO g ρ (look ro ρ) (looks rs ρ) := by
  unfold opMN
  generalize look ro ρ = a
  generalize looks rs ρ = b
  cases a with
  | none => rfl
  | some d =>
    cases b with
    | none => rfl
    | some ds =>
      show _ = mnR ρ (g d ds)
      cases h : g d ds <;> simp only [h] <;> rfl
@[simp] theorem mnO_ok (g : D → List D → Option T) (ρ : Rho) (d : D) (ds : List D) : mnO g ρ (some d) (some ds) = mnR ρ (g d ds) := (rfl)
@[simp] theorem mnR_some (ρ : Rho) (t : T) : mnR ρ (some t) = .ok (.tmp t) ρ := (rfl)
def rvR (ρ : Rho) : Option T → Out R
  | some t => .ok (.tmp t) ρ
  | none => .bad
def rvO (ρ : Rho) : Option D → Out R
  | some d => rvR ρ (fRev d)
  | none => .bad
@[simp] theorem revM_ap (r : R) (ρ : Rho) : revM r ρ = rvO ρ (look r ρ) := by
  unfold revM
  generalize look r ρ = a
  cases a with
  | none => rfl
  | some d =>
    show _ = rvR ρ (fRev d)
    cases h : fRev d <;> simp only [h] <;> rfl
@[simp] theorem rvO_some (ρ : Rho) (d : D) : rvO ρ (some d) = rvR ρ (fRev d) := (rfl)
@[simp] theorem rvR_some (ρ : Rho) (t : T) : rvR ρ (some t) = .ok (.tmp t) ρ := (rfl)
@[simp] theorem fRev_s (z : Str) (h : z.length ≤ 16777216) : fRev (.str z) = some (.val (.str ⟨z.cps.toList.reverse.toArray⟩)) := if_pos (sizeLine_big h)
/-! ### letters in a row -/
abbrev Lt (c : Nat) : D := .str ⟨#[c]⟩
theorem lay_let : ∀ {l : List Nat}, (∀ c ∈ l, isLet c) → PyData.canLayAll0 (l.map Lt) = true ∧ PyData.depthAll (l.map Lt) = 0
  | [], _ => ⟨by simp [PyData.canLayAll0], by simp [PyData.depthAll]⟩
  | c :: l, h => by
    obtain ⟨h1, h2⟩ := lay_let fun x hx => h x (List.mem_cons_of_mem c hx)
    simp only [List.map_cons, PyData.canLayAll0, PyData.depthAll, PyData.canLay0, PyData.depth, h1, h2]
    rcases h c List.mem_cons_self with rfl | rfl | rfl <;> exact ⟨by decide +kernel, rfl⟩
theorem feq_nil {l : List Nat} (h : ∀ c ∈ l, isLet c) : fEq (.list (l.map Lt)) (.list []) = some (.val (.bool (decide (l = [])))) := by
  obtain ⟨h1, h2⟩ := lay_let h
  have s1 : SeqAt.shaped (.list (l.map Lt)) = true := by
    unfold SeqAt.shaped
    simp only [PyData.canLay0, PyData.depth, h1, h2]
    decide
  have s2 : SeqAt.shaped (.list []) = true := by decide
  have e : eqD (.list (l.map Lt)) (.list []) = some (decide (l = [])) := by
    have : eqS (.list (l.map Lt)) (.list []) = none := rfl
    unfold eqD
    rw [this]
    simp only [s1, s2, Bool.and_self, if_true]
    cases l with
    | nil => rfl
    | cons c l => simp [PyData.eqv, PyData.eqvAll]
  unfold fEq
  rw [e]
  rfl
def rowD (st : List Nat) : List D := st.reverse.map Lt
theorem rowD_nil : rowD [] = [] := rfl
theorem rowD_cons (b : Nat) (t : List Nat) : rowD (b :: t) = rowD t ++ [Lt b] := by simp [rowD]
theorem atI_last {α : Type} (l : List α) (a : α) : atI (l ++ [a]) (-1) = some a := by
  unfold atI ixN
  rw [if_neg (by decide), if_pos (by simp; omega)]
  simp only [List.length_append, List.length_cons, List.length_nil, Option.bind_some]
  have : ((-1 : Int) + ((l.length + (0 + 1) : Nat) : Int)).toNat = l.length := by omega
  rw [this]
  simp
def t_put : M Fl := ifS (orM (tcmp fEq (getM 0) (lstM (argN))) (tcmp fNe (bin fEq (bin fIx (getM 0) (un fNeg (cst (.int 1)))) (cst (.str "s"))) (bin fEq (getM 1) (cst (.str "s"))))) (exS (apE (getM 0) (getM 1))) (ifS (tcmp fEq (getM 1) (cst (.str "s"))) (exS (muE0 fPop (getM 0))) (seqM (setS 2 (bin fIx (cst (.tuple [(.str ""), (.str "r"), (.str "q")])) (bin fMod (bin fAdd (M.bind (muE0 fPop (getM 0)) (tabIx [("r", (.int 1)), ("q", (.int 2))])) (M.bind (getM 1) (tabIx [("r", (.int 1)), ("q", (.int 2))]))) (cst (.int 3)))))
  (exS (exE (getM 0) (callB fListU (argC (getM 2) (argN)))))))
def ft_put : List D → List D → Option (List D × D) := runL 1 t_put
def lfin : Out Fl → Option (List D × D)
  | .ok .nx ρ => (match ρ[0]? with
    | some (some (T.lst (some 0) es')) => some (es', PyData.none)
    | _ => none)
  | _ => none
theorem runL_eq (n : Nat) (m : M Fl) (es ds : List D) : runL n m es ds = lfin (m ((some (.lst (some 0) es) :: ds.map (fun d => some (T.val d))) ++ List.replicate n none)) := by
  unfold runL lfin
  rfl
@[simp] theorem lfin_ok (es : List D) (l : Rho) : lfin (.ok .nx (some (.lst (some 0) es) :: l)) = some (es, .none) := (rfl)
theorem str_r : ("r" : Str) = mkS [114] := by decide
theorem str_q : ("q" : Str) = mkS [113] := by decide
theorem put_ok {st : List Nat} {c : Nat} (hs : ∀ x ∈ st, isLet x) (hc : isLet c) (hl : st.length < 1000000) : ft_put (rowD st) [Lt c] = some (rowD (pbS st c), .none) := by
  have hr : ∀ x ∈ st.reverse, isLet x := fun x hx => hs x (List.mem_reverse.mp hx)
  have e0 := feq_nil hr
  have hrl : (rowD st).length = st.length := by simp [rowD]
  unfold ft_put t_put
  rw [runL_eq]
  have hss : ∀ x, isLet x → decide ((⟨#[x]⟩ : Str) = "s") = decide (x = 115) := fun x hx => by rcases hx with rfl | rfl | rfl <;> decide
  have e1 : fEq (Lt c) (.str "s") = some (.val (.bool (decide (c = 115)))) := by rw [fEq_ss, hss c hc]
  cases st with
  | nil =>
    have e2 : fEq (.list []) (.list []) = some (.val (.bool true)) := by simpa using e0
    simp [rowD, pbS, e2]
  | cons b t =>
    have hb := hs b List.mem_cons_self
    have e2 : fEq (.list (rowD (b :: t))) (.list []) = some (.val (.bool false)) := by
      have : decide ((b :: t).reverse = []) = false := by simp
      rw [this] at e0
      exact e0
    have e3 : fEq (Lt b) (.str "s") = some (.val (.bool (decide (b = 115)))) := by rw [fEq_ss, hss b hb]
    have a1 : atI (rowD t ++ [Lt b]) (-1) = some (Lt b) := atI_last _ _
    have l1 : (rowD t).length + 1 < 16777216 := by
      simp only [rowD_cons, List.length_append, List.length_cons, List.length_nil] at hrl
      simp only [List.length_cons] at hl hrl
      omega
    rw [rowD_cons] at e2
    rw [pb_cons, rowD_cons]
    by_cases h1 : b = 115 ↔ c = 115
    · rw [if_neg (by simp [h1])]
      by_cases h2 : c = 115
      · have h3 := h1.mpr h2
        rw [if_pos h2]
        subst h2 h3
        have e1' : fEq (Lt 115) (.str "s") = some (.val (.bool true)) := e1
        simp [-fEq_ss, e1', e2, a1]
      · have h3 : ¬ b = 115 := fun z => h2 (h1.mp z)
        rw [if_neg h2]
        have hbx : b = 114 ∨ b = 113 := by
          unfold isLet at hb
          omega
        have hcx : c = 114 ∨ c = 113 := by
          unfold isLet at hc
          omega
        have q1 : ((⟨#[114]⟩ : Str) == "r") = true := by decide +kernel
        have q2 : ((⟨#[113]⟩ : Str) == "r") = false := by decide +kernel
        have q3 : ((⟨#[113]⟩ : Str) == "q") = true := by decide +kernel
        have k1 : List.lookup (⟨#[114]⟩ : Str) [(("r" : Str), (.int 1 : D)), ("q", .int 2)] = some (.int 1) := by simp only [List.lookup, q1]
        have k2 : List.lookup (⟨#[113]⟩ : Str) [(("r" : Str), (.int 1 : D)), ("q", .int 2)] = some (.int 2) := by simp only [List.lookup, q2, q3]
        have g0 : signs "" = [] := by
          have : ("" : Str).cps.toList = [] := by decide +kernel
          unfold signs
          rw [this]
          rfl
        have g1 : signs "r" = [Lt 114] := by
          have : ("r" : Str).cps.toList = [114] := by decide +kernel
          unfold signs
          rw [this]
          rfl
        have g2 : signs "q" = [Lt 113] := by
          have : ("q" : Str).cps.toList = [113] := by decide +kernel
          unfold signs
          rw [this]
          rfl
        have z0 : (("" : Str).length) ≤ 16777216 := by decide +kernel
        have z1 : (("r" : Str).length) ≤ 16777216 := by decide +kernel
        have z2 : (("q" : Str).length) ≤ 16777216 := by decide +kernel
        have l2 : (rowD t).length ≤ 16777216 := by omega
        have l3 : (rowD t).length + 1 ≤ 16777216 := by omega
        rcases hbx with rfl | rfl <;> rcases hcx with rfl | rfl
        · have : third ((pw 114 + pw 114) % 3) ++ t = 113 :: t := rfl
          rw [this, rowD_cons]
          simp [-fEq_ss, e1, e2, e3, a1, k1, k2, g0, g1, g2, z0, z1, z2, l2, l3]
        · have : third ((pw 114 + pw 113) % 3) ++ t = t := rfl
          rw [this]
          simp [-fEq_ss, e1, e2, e3, a1, k1, k2, g0, g1, g2, z0, z1, z2, l2, l3]
        · have : third ((pw 113 + pw 114) % 3) ++ t = t := rfl
          rw [this]
          simp [-fEq_ss, e1, e2, e3, a1, k1, k2, g0, g1, g2, z0, z1, z2, l2, l3]
        · have : third ((pw 113 + pw 113) % 3) ++ t = 114 :: t := rfl
          rw [this, rowD_cons]
          simp [-fEq_ss, e1, e2, e3, a1, k1, k2, g0, g1, g2, z0, z1, z2, l2, l3]
    · rw [if_pos (by simpa using h1), rowD_cons, rowD_cons]
      have h4 : decide (decide (b = 115) = decide (c = 115)) = false := by simpa using h1
      simp [-fEq_ss, e1, e2, e3, a1, h1, l1]
def t_short : M Fl := seqM (setS 1 (lstM (argN)))
  (seqM (forS (asgR 2) (itA (getM 0)) (exS (lentF ft_put (argC (getM 1) (argC (getM 2) (argN))))))
  (retS (mthE "str" fJoin (cst (.str "")) (argC (getM 1) (argN)))))
def ft_short : List D → FO := runF 2 t_short
theorem short_loop (z : Option T) : ∀ (l st : List Nat) (x : Option T), (∀ c ∈ l, isLet c) → Short st → st.length + l.length < 1000000 → ∃ x', forM (asgR 2) (exS (lentF ft_put (argC (getM 1) (argC (getM 2) (argN))))) (l.map Lt) [z, some (.lst none (rowD st)), x] =
    .ok .nx [z, some (.lst none (rowD (runS st l))), x'] := by
  intro l
  induction l with
  | nil => exact fun st x _ _ _ => ⟨x, rfl⟩
  | cons c l ih =>
    intro st x hl hs hn
    have hc := hl c List.mem_cons_self
    have p := put_ok (st := st) (c := c) hs.1 hc (by simp only [List.length_cons] at hn; omega)
    have pl := pbS_len st c
    obtain ⟨x', e⟩ := ih (pbS st c) (some (.val (Lt c))) (fun y hy => hl y (List.mem_cons_of_mem _ hy)) (pbS_short hs hc) (by simp only [List.length_cons] at hn; omega)
    refine ⟨x', ?_⟩
    rw [List.map_cons, forM_cons]
    show _ = Out.ok Fl.nx [z, some (.lst none (rowD (runS (pbS st c) l))), x']
    rw [← e]
    simp [p]
theorem asStrs_let : ∀ l : List Nat, asStrs (l.map Lt) = some (l.map fun c => (⟨#[c]⟩ : Str))
  | [] => rfl
  | c :: l => by
    show (asStrs (l.map Lt)).map _ = _
    rw [asStrs_let l]
    rfl
theorem join_nil : ∀ l : List Nat, Txt.join "" (l.map fun c => (⟨#[c]⟩ : Str)) = mkS l := by
  intro l
  show PySem.Builtin.Str.glued "" _ = _
  rw [PySem.StrLaws.glued_eq_join]
  induction l with
  | nil => rfl
  | cons c l ih =>
    cases l with
    | nil => rfl
    | cons d l =>
      show (mkS [c] ++ "" ++ Str.join "" ((d :: l).map fun c => (⟨#[c]⟩ : Str)) : Str) = _
      rw [ih, str_e, mkS_app, mkS_app]
      rfl
theorem sum_ones (l : List Nat) : ((l.map fun c => (⟨#[c]⟩ : Str)).map (·.length)).sum = l.length := by
  induction l with
  | nil => rfl
  | cons c l ih =>
    simp only [List.map_cons, List.sum_cons, ih, List.length_cons]
    show 1 + l.length = _
    omega
theorem join_let {l : List Nat} (h : l.length ≤ 16777216) : fJoin (.str "") [.list (l.map Lt)] = some (.val (.str (mkS l))) := by
  unfold fJoin
  simp only [asStrs_let, sum_ones, List.length_map]
  rw [if_pos (by
    have : ("" : Str).length = 0 := rfl
    rw [this]
    omega), join_nil]
theorem tshort_ok {w : List Nat} (hw : ∀ c ∈ w, isLet c) (hn : w.length < 900000) : ft_short [.str (mkS w)] = .ok (.val (.str (mkS (red w)))) := by
  obtain ⟨x', e⟩ := short_loop (some (.val (.str (mkS w)))) w [] none hw Short.nil (by simp; omega)
  have hl := runS_len w []
  simp only [List.length_nil, Nat.zero_add] at hl
  have j := join_let (l := red w) (by
    unfold red
    rw [List.length_reverse]
    omega)
  unfold ft_short t_short
  rw [run_eq]
  have ec : chars (mkS w) = w.map Lt := by simp [chars]
  have er : rowD (runS [] w) = (red w).map Lt := rfl
  rw [er] at e
  simp only [rowD_nil] at e
  simp [ec, e, j]
end DL

set_option Elab.async false
set_option maxRecDepth 100000
set_option maxHeartbeats 4000000
namespace DL
open PySem L2
@[simp] theorem augM_ap (i : Nat) (f : D → D → Option T) (ma : M R) (ρ : Rho) : augM i f ma ρ = (getM i ρ).bnd fun r => M.bind ma fun rb => M.bind (op2 f r rb) fun z => M.bind (asgR i z) fun _ => .ret .nx := (rfl)
@[simp] theorem fLen_s (z : Str) (h : z.length ≤ 16777216) : fLen [.str z] = some (.val (.int z.length)) := if_pos (sizeLine_big h)
theorem mkS_cps (l : List Nat) : (mkS l).cps = l.toArray := rfl
theorem mul_mkS (l : List Nat) (n : Int) : Txt.mul (mkS l) n = mkS (List.replicate n.toNat l).flatten := by
  unfold Txt.mul
  by_cases h : n < 1
  · rw [if_pos h, show n.toNat = 0 by omega]
    rfl
  · rw [if_neg h]
    by_cases h1 : (n == 1 || (mkS l).length == 0) = true
    · rw [if_pos h1]
      rw [Bool.or_eq_true] at h1
      rcases h1 with h1 | h1
      · have : n = 1 := eq_of_beq h1
        subst this
        simp
      · have h2 := eq_of_beq h1
        rw [mkS_len] at h2
        have : l = [] := List.eq_nil_of_length_eq_zero h2
        subst this
        simp
    · rw [if_neg h1]
      have key : ∀ (k : Nat) (acc : List Nat), (List.replicate k (mkS l).cps).foldl (· ++ ·) acc.toArray = (acc ++ (List.replicate k l).flatten).toArray := by
        intro k
        induction k with
        | zero => intro acc; simp
        | succ k ih =>
          intro acc
          rw [List.replicate_succ, List.foldl_cons, mkS_cps, show acc.toArray ++ l.toArray = (acc ++ l).toArray by simp, ih, List.replicate_succ, List.flatten_cons, List.append_assoc]
      have := key n.toNat []
      simp only [List.nil_append] at this
      show (⟨_⟩ : Str) = _
      rw [this]
def t_sword : M Fl := seqM (ifS (tcmp fGt (getM 0) (cst (.int 0))) (retS (bin fMulS (cst (.str "qs")) (getM 0))) (nilS))
  (retS (bin fMulS (cst (.str "sr")) (bin fSub (cst (.int 0)) (getM 0))))
def ft_sword : List D → FO := runF 0 t_sword
theorem str_qs : ("qs" : Str) = mkS [113, 115] := by decide
theorem str_sr : ("sr" : Str) = mkS [115, 114] := by decide
theorem mulOk_of {l : List Nat} {n : Int} (h : l.length * n.toNat ≤ 16777216) (h1 : n.natAbs < 1000000000) : mulOkB (mkS l) n = true := by
  unfold mulOkB
  rw [mkS_len, Bool.and_eq_true, Bool.and_eq_true]
  exact ⟨decide_eq_true (by omega), decide_eq_true (by omega), decide_eq_true h⟩
theorem sword_ok {n : Int} (h : n.natAbs ≤ 1000000) : ft_sword [.int n] = .ok (.val (.str (mkS (stp n)))) := by
  unfold ft_sword t_sword stp
  rw [run_eq]
  by_cases h0 : 0 < n
  · have k := mulOk_of (l := [113, 115]) (n := n) (by simp; omega) (by omega)
    rw [← str_qs] at k
    have e : Txt.mul "qs" n = mkS (qs n.toNat) := by
      rw [str_qs, mul_mkS]
      try rfl
    rw [if_pos h0]
    simp [h0, k, e]
  · have k := mulOk_of (l := [115, 114]) (n := 0 - n) (by simp; omega) (by omega)
    rw [← str_sr, Int.zero_sub] at k
    have e : Txt.mul "sr" (-n) = mkS (sr (-n).toNat) := by
      rw [str_sr, mul_mkS]
      try rfl
    rw [if_neg h0]
    simp [h0, k, e]
/-! ### whole steps, walked -/
def t_stepsC : M Bool := tcmp fNe (getM 5) (cst (.int 0))
def t_stepsB : M Fl := seqM (setS 7 (bin fDiv (getM 3) (getM 5)))
  (seqM (exS (apE (getM 1) (getM 7)))
  (seqM (augM 2 fAddI (bin fAdd (bin fMulI (cst (.int 2)) (callB fAbs (argC (getM 7) (argN)))) (cst (.int 1))))
  (seqM (ifS (tcmp fGt (getM 2) (cst (.int 12000))) (raiseM "TooLong") (nilS))
  (asgS (asgSeq 4 (asgCons (asgR 3) (asgCons (asgR 4) (asgCons (asgR 5) (asgCons (asgR 6) (asgNil)))))) (tupM (argC (bin fSub (cst (.int 0)) (getM 5)) (argC (bin fSub (cst (.int 0)) (getM 6)) (argC (bin fSub (getM 3) (bin fMulI (getM 7) (getM 5))) (argC (bin fSub (getM 4) (bin fMulI (getM 7) (getM 6))) (argN))))))))))
noncomputable def t_steps : M Fl := seqM (asgS (asgSeq 4 (asgCons (asgR 3) (asgCons (asgR 4) (asgCons (asgR 5) (asgCons (asgR 6) (asgNil)))))) (getM 0))
  (seqM (setS 1 (lstM (argN)))
  (seqM (setS 2 (cst (.int 0)))
  (seqM (whileC (tcmp fNe (getM 5) (cst (.int 0))) (seqM (setS 7 (bin fDiv (getM 3) (getM 5)))
  (seqM (exS (apE (getM 1) (getM 7)))
  (seqM (augM 2 fAddI (bin fAdd (bin fMulI (cst (.int 2)) (callB fAbs (argC (getM 7) (argN)))) (cst (.int 1))))
  (seqM (ifS (tcmp fGt (getM 2) (cst (.int 12000))) (raiseM "TooLong") (nilS))
  (asgS (asgSeq 4 (asgCons (asgR 3) (asgCons (asgR 4) (asgCons (asgR 5) (asgCons (asgR 6) (asgNil)))))) (tupM (argC (bin fSub (cst (.int 0)) (getM 5)) (argC (bin fSub (cst (.int 0)) (getM 6)) (argC (bin fSub (getM 3) (bin fMulI (getM 7) (getM 5))) (argC (bin fSub (getM 4) (bin fMulI (getM 7) (getM 6))) (argN))))))))))))
  (seqM (exS (apE (getM 1) (bin fMulI (getM 4) (getM 6))))
  (seqM (ifS (tcmp fGt (bin fAdd (getM 2) (bin fMulI (cst (.int 2)) (callB fAbs (argC (getM 4) (argN))))) (cst (.int 12000))) (raiseM "TooLong") (nilS))
  (retS (getM 1)))))))
noncomputable def ft_steps : List D → FO := runF 7 t_steps
theorem nxt_lt {m : M4} {K : Nat} (hm : m.lt K) (hK : 1 ≤ K) (hd : m.det = 1) (hc : 0 < m.c) : (nxt m).lt K := by
  obtain ⟨h1, h2, h3, h4⟩ := hm
  obtain ⟨c1, c2⟩ := nxt_c hc
  have hd' := nxt_det hd
  have two : 2 ^ 1 ≤ 2 ^ K := Nat.pow_le_pow_right (by decide) hK
  refine ⟨by show (-m.c).natAbs < _; rw [Int.natAbs_neg]; exact h3, by show (-m.d).natAbs < _; rw [Int.natAbs_neg]; exact h4, by omega, ?_⟩
  have e : m.c * (nxt m).d = m.d * (nxt m).c - 1 := by
    have : (nxt m).a * (nxt m).d - (nxt m).b * (nxt m).c = 1 := hd'
    have e1 : (nxt m).a = -m.c := rfl
    have e2 : (nxt m).b = -m.d := rfl
    rw [e1, e2] at this
    grind
  generalize (nxt m).d = d' at *
  generalize (nxt m).c = c' at *
  generalize m.c = c at *
  generalize m.d = d at *
  obtain ⟨M, hM1, hM2, hM3, hM4⟩ : ∃ M : Int, 1 ≤ M ∧ -M ≤ d ∧ d ≤ M ∧ M.natAbs < 2 ^ K := ⟨if d.natAbs = 0 then 1 else d.natAbs, by split <;> omega, by split <;> omega, by split <;> omega, by split <;> omega⟩
  have b1 : d * c' ≤ M * c' := Int.mul_le_mul_of_nonneg_right hM3 c1
  have b2 : -M * c' ≤ d * c' := Int.mul_le_mul_of_nonneg_right hM2 c1
  have b3 : M * c' ≤ M * (c - 1) := Int.mul_le_mul_of_nonneg_left (by omega) (by omega)
  have e3 : M * (c - 1) = c * M - M := by grind
  have e4 : -M * c' = -(M * c') := by grind
  have u1 : c * d' < c * M := by omega
  have u2 : c * -M ≤ c * d' := by
    rw [Int.mul_neg]
    omega
  have v1 := Int.lt_of_mul_lt_mul_left u1 (by omega)
  have v2 := Int.le_of_mul_le_mul_left u2 hc
  omega
theorem raw_cons (n : Int) (l : List Int) (h : l ≠ []) : raw (n :: l) = 2 * n.natAbs + 1 + raw l := by
  cases l with
  | nil => exact absurd rfl h
  | cons k l => rfl
theorem expn_ne (m : M4) : expn m ≠ [] := by
  obtain ⟨n, ns, e⟩ := expn_cons m
  rw [e]
  exact fun z => by cases z
theorem steps_loop (z : Option T) {K : Nat} (hK : 1 ≤ K) (hK2 : K < 8000) : ∀ (N : Nat) (m : M4) (found : List Int) (many : Nat) (x7 : Option T), m.c.toNat ≤ N → 0 ≤ m.c → m.det = 1 → m.lt K → found.length ≤ many → many ≤ 12000 →
    (∃ ρ', whileC t_stepsC t_stepsB [z, some (.lst none (found.map .int)), some (.val (.int many)), some (.val (.int m.a)), some (.val (.int m.b)), some (.val (.int m.c)), some (.val (.int m.d)), x7] = .exc ⟨"TooLong", []⟩ ρ' ∧ 12000 < many + raw (expn m)) ∨
    ∃ (fr : List Int) (many' : Nat) (a b d : Int) (x7' : Option T), whileC t_stepsC t_stepsB [z, some (.lst none (found.map .int)), some (.val (.int many)), some (.val (.int m.a)), some (.val (.int m.b)), some (.val (.int m.c)), some (.val (.int m.d)), x7] =
      .ok .nx [z, some (.lst none ((found ++ fr).map .int)), some (.val (.int many')), some (.val (.int a)), some (.val (.int b)), some (.val (.int 0)), some (.val (.int d)), x7'] ∧ expn m = fr ++ [b * d] ∧ many' + 2 * b.natAbs = many + raw (expn m) ∧ many' ≤ 12000 ∧ found.length + fr.length ≤ 12000 ∧ b.natAbs < 2 ^ K ∧ d.natAbs = 1 := by
  intro N
  induction N with
  | zero =>
    intro m found many x7 hN hc hd hm hf hmany
    right
    have c0 : m.c = 0 := by omega
    have had : m.a * m.d = 1 := by
      have : m.a * m.d - m.b * m.c = 1 := hd
      rw [c0, Int.mul_zero, Int.sub_zero] at this
      exact this
    have hd1 : m.d.natAbs = 1 := by
      rcases unit_of had with ⟨_, h⟩ | ⟨_, h⟩ <;> omega
    refine ⟨[], many, m.a, m.b, m.d, x7, ?_, by rw [expn_zero (by omega)]; rfl, ?_, hmany, by simpa using (by omega), hm.2.1, hd1⟩
    · rw [while_ap]
      unfold t_stepsC
      simp [c0]
    · rw [expn_zero (by omega)]
      show _ = many + 2 * (m.b * m.d).natAbs
      rw [Int.natAbs_mul, hd1]
      omega
  | succ N ih =>
    intro m found many x7 hN hc hd hm hf hmany
    by_cases h : 0 < m.c
    · obtain ⟨h1, h2⟩ := nxt_c h
      have hml := nxt_lt hm hK hd h
      have hne : m.c ≠ 0 := by omega
      have hnat : m.c.natAbs ≠ 0 := by omega
      have d1 : bDivZ m.a m.c = true := bDivZ_of K hne hm.2.2.1 (by omega)
      obtain ⟨g1, g2, g3, g4⟩ := hm
      have hq : (m.a.fdiv m.c).natAbs < 2 ^ (K + 1) := by
        have hmod := mod_lt (a := m.a) h
        generalize m.a.fdiv m.c = q at *
        have e2 : 2 ^ (K + 1) = 2 ^ K * 2 := Nat.pow_succ ..
        rcases Int.lt_or_le q 0 with z1 | z1
        · have := Int.mul_le_mul_of_nonneg_left (show (1 : Int) ≤ m.c by omega) (show 0 ≤ -(q + 1) by omega)
          have e3 : -(q + 1) * m.c = -(q * m.c) - m.c := by grind
          omega
        · have := Int.mul_le_mul_of_nonneg_left (show (1 : Int) ≤ m.c by omega) z1
          omega
      have en := expn_pos h
      have rw1 := raw_cons (m.a.fdiv m.c) (expn (nxt m)) (expn_ne _)
      have m1 := bMul_of (i := m.a.fdiv m.c) (j := m.c) (K + 1) K hq g3 (by omega)
      have m2 := bMul_of (i := m.a.fdiv m.c) (j := m.d) (K + 1) K hq g4 (by omega)
      have m3 := bMul_of (i := 2) (j := ((m.a.fdiv m.c).natAbs : Int)) 2 (K + 1) (by decide) (by omega) (by omega)
      have na : (nxt m).a = -m.c := rfl
      have nb : (nxt m).b = -m.d := rfl
      have nc : (nxt m).c = m.a - m.a.fdiv m.c * m.c := rfl
      have nd : (nxt m).d = m.b - m.a.fdiv m.c * m.d := rfl
      have hfl : found.length < 16777216 := by omega
      have hcond : t_stepsC [z, some (.lst none (found.map .int)), some (.val (.int many)), some (.val (.int m.a)), some (.val (.int m.b)), some (.val (.int m.c)), some (.val (.int m.d)), x7] = .ok true [z, some (.lst none (found.map .int)), some (.val (.int many)), some (.val (.int m.a)), some (.val (.int m.b)), some (.val (.int m.c)), some (.val (.int m.d)), x7] := by
        unfold t_stepsC
        simp [hne]
      rw [while_ap, hcond, bnd_ok, if_pos rfl, bind_ap]
      by_cases hbig : many + (2 * (m.a.fdiv m.c).natAbs + 1) ≤ 12000
      · have hb' : ¬ (12000 : Int) < (many : Int) + (2 * ((m.a.fdiv m.c).natAbs : Int) + 1) := by omega
        have body : t_stepsB [z, some (.lst none (found.map .int)), some (.val (.int many)), some (.val (.int m.a)), some (.val (.int m.b)), some (.val (.int m.c)), some (.val (.int m.d)), x7] =
            .ok .nx [z, some (.lst none ((found ++ [m.a.fdiv m.c]).map .int)), some (.val (.int ((many + (2 * (m.a.fdiv m.c).natAbs + 1) : Nat) : Int))), some (.val (.int (nxt m).a)), some (.val (.int (nxt m).b)), some (.val (.int (nxt m).c)), some (.val (.int (nxt m).d)), some (.val (.int (m.a.fdiv m.c)))] := by
          rw [na, nb, nc, nd]
          unfold t_stepsB
          generalize hq0 : m.a.fdiv m.c = q at *
          simp [hq0, d1, hne, hfl, m1, m2, m3, hb']
        rw [body, bnd_ok, loop_nx]
        rcases ih (nxt m) (found ++ [m.a.fdiv m.c]) (many + (2 * (m.a.fdiv m.c).natAbs + 1)) (some (.val (.int (m.a.fdiv m.c)))) (by omega) h1 (nxt_det hd) hml (by rw [List.length_append]; simp; omega) hbig with ⟨ρ', e, hr⟩ | ⟨fr, many', a, b, d, x7', e, k1, k2, k3, k4, k5, k6⟩
        · left
          exact ⟨ρ', e, by rw [en, rw1]; omega⟩
        · right
          refine ⟨m.a.fdiv m.c :: fr, many', a, b, d, x7', ?_, by rw [en, k1]; rfl, by rw [en, rw1]; omega, k3, ?_, k5, k6⟩
          · rw [e, List.append_assoc]
            rfl
          · rw [List.length_append] at k4
            simp only [List.length_cons, List.length_nil] at k4 ⊢
            omega
      · left
        have hb' : (12000 : Int) < (many : Int) + (2 * ((m.a.fdiv m.c).natAbs : Int) + 1) := by omega
        unfold t_stepsB
        generalize hq0 : m.a.fdiv m.c = q at *
        refine ⟨[z, some (.lst none ((found ++ [q]).map .int)), some (.val (.int ((many : Int) + (2 * (q.natAbs : Int) + 1)))), some (.val (.int m.a)), some (.val (.int m.b)), some (.val (.int m.c)), some (.val (.int m.d)), some (.val (.int q))], ?_, by rw [en, rw1]; omega⟩
        simp [hq0, d1, hne, hfl, m1, m2, m3, hb']
    · exact ih m found many x7 (by omega) hc hd hm hf hmany
theorem steps_ok {m : M4} {K : Nat} (hm : m.lt K) (hK : 1 ≤ K) (hK2 : K < 8000) (hd : m.det = 1) (hc : 0 ≤ m.c) : ft_steps [m.D] = if raw (expn m) ≤ 12000 then .ok (.lst none ((expn m).map .int)) else .exc ⟨"TooLong", []⟩ := by
  unfold ft_steps t_steps
  rw [run_eq]
  have L := steps_loop (some (.val m.D)) hK hK2 m.c.toNat m [] 0 none (Nat.le_refl _) hc hd hm (Nat.le_refl _) (by decide)
  simp only [t_stepsC, t_stepsB, List.map_nil, Nat.zero_add, List.nil_append, List.length_nil, Int.natCast_zero] at L
  rcases L with ⟨ρ', e, hr⟩ | ⟨fr, many', a, b, d, x7', e, k1, k2, k3, k4, k5, k6⟩
  · rw [if_neg (by omega)]
    simp only [M4.D] at e
    simp [M4.D, e]
  · have m1 := bMul_of (i := b) (j := d) K 1 k5 (by omega) (by omega)
    have m2 := bMul_of (i := 2) (j := (b.natAbs : Int)) 2 K (by decide) (by omega) (by omega)
    have hl : fr.length < 16777216 := by omega
    rw [k1] at k2 ⊢
    simp only [M4.D] at e
    by_cases hb : raw (fr ++ [b * d]) ≤ 12000
    · rw [if_pos hb]
      have hb' : ¬ (12000 : Int) < (many' : Int) + 2 * (b.natAbs : Int) := by omega
      simp [M4.D, e, m1, m2, hl, hb']
    · rw [if_neg hb]
      have hb' : (12000 : Int) < (many' : Int) + 2 * (b.natAbs : Int) := by omega
      simp [M4.D, e, m1, m2, hl, hb']
noncomputable def t_word : M Fl := seqM (setS 1 (callF ft_short (argC (mthE "str" fJoin (cst (.str "s")) (argC (lcM (put1 2) (M.ret true) (callF ft_sword (argC (getM 2) (argN))) [2] (itA (callF ft_steps (argC (getM 0) (argN))))) (argN))) (argN))))
  (seqM (ifS (tcmp fGt (callB fLen (argC (getM 1) (argN))) (cst (.int 2000))) (raiseM "TooLong") (nilS))
  (retS (getM 1)))
noncomputable def ft_word : List D → FO := runF 2 t_word
theorem raw_each : ∀ (ns : List Int), ∀ n ∈ ns, 2 * n.natAbs ≤ raw ns
  | [], n, h => by cases h
  | [k], n, h => by
    rw [List.mem_singleton.mp h]
    exact Nat.le_refl _
  | k :: j :: ns, n, h => by
    show _ ≤ 2 * k.natAbs + 1 + raw (j :: ns)
    rcases List.mem_cons.mp h with rfl | h
    · omega
    · have := raw_each (j :: ns) n h
      omega
theorem raw_many : ∀ (ns : List Int), ns.length ≤ raw ns + 1
  | [] => by simp
  | [k] => by simp
  | k :: j :: ns => by
    have := raw_many (j :: ns)
    show ns.length + 1 + 1 ≤ 2 * k.natAbs + 1 + raw (j :: ns) + 1
    simp only [List.length_cons] at this
    omega
theorem join_s : ∀ ns : List Int, ns ≠ [] → Txt.join "s" (ns.map fun n => mkS (stp n)) = mkS (wrd ns) := by
  intro ns hne
  show PySem.Builtin.Str.glued "s" _ = _
  rw [PySem.StrLaws.glued_eq_join]
  induction ns with
  | nil => exact absurd rfl hne
  | cons n ns ih =>
    cases ns with
    | nil => rfl
    | cons k ns =>
      show (mkS (stp n) ++ "s" ++ Str.join "s" ((k :: ns).map fun n => mkS (stp n)) : Str) = _
      rw [ih (fun z => by cases z), str_s, mkS_app, mkS_app]
      rw [List.append_assoc]
      rfl
theorem asStrs_stp : ∀ ns : List Int, asStrs (ns.map fun n => .str (mkS (stp n))) = some (ns.map fun n => mkS (stp n))
  | [] => rfl
  | n :: ns => by
    show (asStrs (ns.map _)).map _ = _
    rw [asStrs_stp ns]
    rfl
theorem sum_stp : ∀ ns : List Int, ((ns.map fun n => mkS (stp n)).map (·.length)).sum + ns.length ≤ raw ns + 1
  | [] => by simp
  | [n] => by
    simp only [List.map_cons, List.map_nil, List.sum_cons, List.sum_nil, mkS_len, stp_len, List.length_cons, List.length_nil]
    show _ ≤ 2 * n.natAbs + 1
    omega
  | n :: k :: ns => by
    have := sum_stp (k :: ns)
    rw [List.map_cons, List.map_cons, List.sum_cons, mkS_len, stp_len, List.length_cons]
    show _ ≤ 2 * n.natAbs + 1 + raw (k :: ns) + 1
    omega
/-- the program's short word of a turning -/
theorem word_of_ok {m : M4} {K : Nat} {u : List Nat} (hm : m.lt K) (hK : 1 ≤ K) (hK2 : K < 8000) (hd : m.det = 1) (hu : ¬ m.down) (su : Short u) (e : trn u = m) : ft_word [m.D] = if u.length ≤ 2000 then .ok (.val (.str (mkS u))) else .exc ⟨"TooLong", []⟩ := by
  have hc : 0 ≤ m.c := by
    unfold M4.down at hu
    omega
  have st := steps_ok hm hK hK2 hd hc
  have tr := expn_trn _ m (Nat.le_refl _) hd hc
  rw [M4.nrm_id hu] at tr
  have er : red (wrd (expn m)) = u := red_of (wrd_let _) su (tr.trans e.symm)
  have rl := raw_le hc
  rw [er] at rl
  unfold ft_word t_word
  rw [run_eq]
  have hne := expn_ne m
  by_cases hr : raw (expn m) ≤ 12000
  · rw [if_pos hr] at st
    have each := raw_each (expn m)
    have hmany := raw_many (expn m)
    have hsum := sum_stp (expn m)
    have hwl := wrd_len (expn m)
    have hul : u.length ≤ 12000 := by
      rw [← er]
      have := red_len (wrd (expn m))
      omega
    have ts := tshort_ok (wrd_let (expn m)) (by omega)
    rw [er] at ts
    generalize expn m = ns at *
    have L : ∀ ρ : Rho, ρ[2]? = some none → lcLoop (put1 2) (M.ret true) (callF ft_sword (argC (getM 2) (argN))) [2] (ns.map .int) [] ρ = .ok (ns.map fun n => .str (mkS (stp n))) ρ := by
      intro ρ h
      have hlen : 2 < ρ.length := (List.getElem?_eq_some_iff.mp h).1
      have := lcLoop_map (ρ := ρ) (f := put1 2) (me := callF ft_sword (argC (getM 2) (argN))) (own := [2]) (fun d => match d with
        | .int n => .str (mkS (stp n))
        | _ => .none) (ds := ns.map .int) (fun d hd => by
          obtain ⟨n, hn, rfl⟩ := List.mem_map.mp hd
          have sw := sword_ok (n := n) (by have := each n hn; omega)
          refine ⟨ρ.set 2 (some (.val (.int n))), .tmp (.val (.str (mkS (stp n)))), ρ.set 2 (some (.val (.int n))), ρ.set 2 (some (.val (.int n))), ?_, ?_, ?_, ?_⟩
          · simp [h]
          · simp [hlen, sw]
          · simp
          · simp only [wipeR_cons, wipeR_nil]
            exact set_back h) (by rw [List.length_map]; omega)
      rw [this, List.map_map]
      rfl
    have j : fJoin (.str "s") [.list (ns.map fun n => .str (mkS (stp n)))] = some (.val (.str (mkS (wrd ns)))) := by
      unfold fJoin
      simp only [asStrs_stp]
      rw [if_pos (by
        rw [List.length_map]
        have : ("s" : Str).length = 1 := by decide
        rw [this]
        omega), join_s ns hne]
    have L1 := L [some (.val m.D), none, none] rfl
    have hu2 : u.length ≤ 16777216 := by omega
    simp only [M4.D] at st L1
    by_cases hu3 : u.length ≤ 2000
    · rw [if_pos hu3]
      have hu4 : ¬ (2000 : Int) < (u.length : Int) := by omega
      simp [M4.D, st, L1, j, ts, hu2, hu4]
    · rw [if_neg hu3]
      have hu4 : (2000 : Int) < (u.length : Int) := by omega
      simp [M4.D, st, L1, j, ts, hu2, hu4]
  · rw [if_neg hr] at st
    rw [if_neg (by omega)]
    simp only [M4.D] at st
    simp [M4.D, st]
end DL

set_option Elab.async false
set_option maxRecDepth 100000
set_option maxHeartbeats 4000000
namespace DL
open PySem L2
/-! ### texts cut -/
theorem slice_mkS (l : List Nat) (lo hi : Option Int) : Txt.slice (mkS l) lo hi = mkS ((l.drop (HT.sIx l.length 0 lo)).take (HT.sIx l.length l.length hi - HT.sIx l.length 0 lo)) := by
  show PySem.StrLaws.sliceText (mkS l) lo hi = _
  rw [L2.sliceText_cut]
  unfold L2.cutS
  rw [mkS_len]
theorem sl_to {l : List Nat} {k : Int} (h0 : 0 ≤ k) (hl : l.length ≤ 16777216) : fSl (.str (mkS l)) none (some k) = some (.val (.str (mkS (l.take k.toNat)))) := by
  show (if (mkS l).length ≤ sizeLine then _ else _) = _
  rw [if_pos (sizeLine_big (by rw [mkS_len]; exact hl)), slice_mkS]
  have e : HT.sIx l.length l.length (some k) = min k.toNat l.length := by
    show (if k < 0 then _ else _) = _
    rw [if_neg (by omega)]
  rw [HT.sIx_none, e, Nat.sub_zero, List.drop_zero]
  congr 3
  rw [← List.take_take, List.take_length]
theorem sl_from {l : List Nat} {k : Int} (h0 : 0 ≤ k) (hl : l.length ≤ 16777216) : fSl (.str (mkS l)) (some k) none = some (.val (.str (mkS (l.drop k.toNat)))) := by
  show (if (mkS l).length ≤ sizeLine then _ else _) = _
  rw [if_pos (sizeLine_big (by rw [mkS_len]; exact hl)), slice_mkS]
  have e : HT.sIx l.length 0 (some k) = min k.toNat l.length := by
    show (if k < 0 then _ else _) = _
    rw [if_neg (by omega)]
  rw [HT.sIx_none, e]
  by_cases h : k.toNat ≤ l.length
  · rw [Nat.min_eq_left h, List.take_of_length_le (by rw [List.length_drop]; exact Nat.le_refl _)]
  · rw [Nat.min_eq_right (by omega), List.drop_of_length_le (Nat.le_refl _), List.drop_of_length_le (show l.length ≤ k.toNat by omega)]
    simp
theorem at_mkS {l : List Nat} {k : Int} {c : Nat} (h0 : 0 ≤ k) (h : l[k.toNat]? = some c) (hl : l.length ≤ 16777216) : fIx (.str (mkS l)) (.int k) = some (.val (Lt c)) := by
  rw [fIx_s _ _ (by rw [mkS_len]; exact hl)]
  have : atI (mkS l).cps.toList k = some c := by
    have e := atI_n (l := (mkS l).cps.toList) (k := k.toNat) (a := c) (by simpa [mkS] using h)
    rwa [show ((k.toNat : Nat) : Int) = k by omega] at e
  rw [this]
  rfl
/-! ### the law's contrary of a turning -/
def l_contrary : M Fl := seqM (asgS (asgSeq 4 (asgCons (asgR 1) (asgCons (asgR 2) (asgCons (asgR 3) (asgCons (asgR 4) (asgNil)))))) (getM 0))
  (seqM (ifS (DL.orM (tcmp fGt (getM 3) (cst (.int 0))) (DL.andM (tcmp fEq (getM 3) (cst (.int 0))) (tcmp fLt (getM 1) (cst (.int 0))))) (retS (tupM (argC (bin fSub (cst (.int 0)) (getM 4)) (argC (getM 2) (argC (getM 3) (argC (bin fSub (cst (.int 0)) (getM 1)) (argN))))))) (nilS))
  (retS (tupM (argC (getM 4) (argC (bin fSub (cst (.int 0)) (getM 2)) (argC (bin fSub (cst (.int 0)) (getM 3)) (argC (getM 1) (argN))))))))
def fl_contrary : List D → FO := runF 4 l_contrary
theorem lcontrary_ok (x : M4) : fl_contrary [x.D] = .ok (.val x.inv.D) := by
  obtain ⟨a, b, c, d⟩ := x
  unfold fl_contrary l_contrary
  rw [run_eq]
  by_cases c0 : 0 < c
  · have e : (⟨a, b, c, d⟩ : M4).inv = ⟨-d, b, c, -a⟩ := by
      have : (⟨d, -b, -c, a⟩ : M4).down := by left; show -c < 0; omega
      unfold M4.inv M4.nrm
      rw [if_pos this]
      simp [M4.neg]
    rw [e]
    simp [M4.D, c0]
  · by_cases c1 : c = 0 ∧ a < 0
    · have e : (⟨a, b, c, d⟩ : M4).inv = ⟨-d, b, c, -a⟩ := by
        have : (⟨d, -b, -c, a⟩ : M4).down := by right; show -c = 0 ∧ a < 0; omega
        unfold M4.inv M4.nrm
        rw [if_pos this]
        simp [M4.neg]
      rw [e]
      obtain ⟨rfl, c2⟩ := c1
      simp [M4.D, c2]
    · have e : (⟨a, b, c, d⟩ : M4).inv = ⟨d, -b, -c, a⟩ := by
        have : ¬ (⟨d, -b, -c, a⟩ : M4).down := by show ¬ (-c < 0 ∨ -c = 0 ∧ a < 0); omega
        unfold M4.inv M4.nrm
        rw [if_neg this]
      rw [e]
      by_cases c2 : c = 0
      · have c3 : ¬ a < 0 := fun z => c1 ⟨c2, z⟩
        subst c2
        simp [M4.D, c3]
      · simp [M4.D, c0, c2]
/-! ### words turned about -/
theorem undo_rev (u : List Nat) : u.reverse.map opp = undo u := by
  unfold undo
  rw [List.map_reverse]
theorem chars_rev (u : List Nat) : chars ⟨(mkS u).cps.toList.reverse.toArray⟩ = u.reverse.map Lt := by
  simp [chars, mkS]
def l_turned : M Fl := retS (mthE "str" fJoin (cst (.str "")) (argC (lcM (put1 1) (M.ret true) (dispIx ["s", "r", "q"] [cst (.str "s"), cst (.str "q"), cst (.str "r")] (getM 1)) [1] (itA (M.bind (getM 0) revM))) (argN)))
def fl_turned : List D → FO := runF 1 l_turned
theorem assoc_opp {c : Nat} (h : isLet c) : assocS (⟨#[c]⟩ : Str) [("s", .str "s"), ("r", .str "q"), ("q", .str "r")] none = some (Lt (opp c)) := by
  have e1 : (("s" : Str) = ⟨#[115]⟩) := by decide
  have e2 : (("r" : Str) = ⟨#[114]⟩) := by decide
  have e3 : (("q" : Str) = ⟨#[113]⟩) := by decide
  rcases h with rfl | rfl | rfl <;> simp [assocS, e1, e2, e3, opp]
theorem lturned_ok {u : List Nat} (h : ∀ c ∈ u, isLet c) (hn : u.length ≤ 1000000) : fl_turned [.str (mkS u)] = .ok (.val (.str (mkS (undo u)))) := by
  have L : ∀ ρ : Rho, ρ[1]? = some none → lcLoop (put1 1) (M.ret true) (dispIx ["s", "r", "q"] [cst (.str "s"), cst (.str "q"), cst (.str "r")] (getM 1)) [1] (u.reverse.map Lt) [] ρ = .ok ((undo u).map Lt) ρ := by
    intro ρ hρ
    have hlen : 1 < ρ.length := (List.getElem?_eq_some_iff.mp hρ).1
    have := lcLoop_map (ρ := ρ) (f := put1 1) (me := dispIx ["s", "r", "q"] [cst (.str "s"), cst (.str "q"), cst (.str "r")] (getM 1)) (own := [1]) (fun d => match d with
      | .str z => Lt (opp (z.cps.toList.getD 0 0))
      | _ => .none) (ds := u.reverse.map Lt) (fun d hd => by
        obtain ⟨c, hc, rfl⟩ := List.mem_map.mp hd
        have ao := assoc_opp (h c (List.mem_reverse.mp hc))
        refine ⟨ρ.set 1 (some (.val (Lt c))), .tmp (.val (Lt (opp c))), ρ.set 1 (some (.val (Lt c))), ρ.set 1 (some (.val (Lt c))), ?_, ?_, ?_, ?_⟩
        · simp [hρ]
        · simp [hlen, ao]
        · simp
        · simp only [wipeR_cons, wipeR_nil]
          exact set_back hρ) (by rw [List.length_map, List.length_reverse]; omega)
    rw [this, ← undo_rev, List.map_map, List.map_map]
    rfl
  have hl : (undo u).length = u.length := by simp [undo]
  have j := join_let (l := undo u) (by omega)
  have hu : u.length ≤ 16777216 := by omega
  have L1 := L [some (.val (.str (mkS u))), none] rfl
  rw [List.map_reverse] at L1
  have cr := chars_rev u
  unfold fl_turned l_turned
  rw [run_eq]
  simp [hu, cr, L1, j]
def t_wcon : M Fl := retS (mthE "str" fJoin (cst (.str "")) (argC (lcM (put1 1) (M.ret true) (M.bind (getM 1) (tabIx [("s", (.str "s")), ("r", (.str "q")), ("q", (.str "r"))])) [1] (itA (M.bind (getM 0) revM))) (argN)))
def ft_wcon : List D → FO := runF 1 t_wcon
theorem look_opp {c : Nat} (h : isLet c) : List.lookup (⟨#[c]⟩ : Str) [("s", (.str "s" : D)), ("r", .str "q"), ("q", .str "r")] = some (Lt (opp c)) := by
  have q1 : ((⟨#[115]⟩ : Str) == "s") = true := by decide +kernel
  have q2 : ((⟨#[114]⟩ : Str) == "s") = false := by decide +kernel
  have q3 : ((⟨#[114]⟩ : Str) == "r") = true := by decide +kernel
  have q4 : ((⟨#[113]⟩ : Str) == "s") = false := by decide +kernel
  have q5 : ((⟨#[113]⟩ : Str) == "r") = false := by decide +kernel
  have q6 : ((⟨#[113]⟩ : Str) == "q") = true := by decide +kernel
  have e1 : (("s" : Str) = ⟨#[115]⟩) := by decide
  have e2 : (("r" : Str) = ⟨#[114]⟩) := by decide
  have e3 : (("q" : Str) = ⟨#[113]⟩) := by decide
  rcases h with rfl | rfl | rfl
  · simp only [List.lookup, q1]
    rw [e1]
    rfl
  · simp only [List.lookup, q2, q3]
    rw [e3]
    rfl
  · simp only [List.lookup, q4, q5, q6]
    rw [e2]
    rfl
theorem wcon_ok {u : List Nat} (h : ∀ c ∈ u, isLet c) (hn : u.length ≤ 1000000) : ft_wcon [.str (mkS u)] = .ok (.val (.str (mkS (undo u)))) := by
  have L : ∀ ρ : Rho, ρ[1]? = some none → lcLoop (put1 1) (M.ret true) (M.bind (getM 1) (tabIx [("s", (.str "s")), ("r", (.str "q")), ("q", (.str "r"))])) [1] (u.reverse.map Lt) [] ρ = .ok ((undo u).map Lt) ρ := by
    intro ρ hρ
    have hlen : 1 < ρ.length := (List.getElem?_eq_some_iff.mp hρ).1
    have := lcLoop_map (ρ := ρ) (f := put1 1) (me := M.bind (getM 1) (tabIx [("s", (.str "s")), ("r", (.str "q")), ("q", (.str "r"))])) (own := [1]) (fun d => match d with
      | .str z => Lt (opp (z.cps.toList.getD 0 0))
      | _ => .none) (ds := u.reverse.map Lt) (fun d hd => by
        obtain ⟨c, hc, rfl⟩ := List.mem_map.mp hd
        have ao := look_opp (h c (List.mem_reverse.mp hc))
        refine ⟨ρ.set 1 (some (.val (Lt c))), .tmp (.val (Lt (opp c))), ρ.set 1 (some (.val (Lt c))), ρ.set 1 (some (.val (Lt c))), ?_, ?_, ?_, ?_⟩
        · simp [hρ]
        · rw [bind_ap]
          simp [hlen, ao]
        · simp
        · simp only [wipeR_cons, wipeR_nil]
          exact set_back hρ) (by rw [List.length_map, List.length_reverse]; omega)
    rw [this, ← undo_rev, List.map_map, List.map_map]
    rfl
  have hl : (undo u).length = u.length := by simp [undo]
  have j := join_let (l := undo u) (by omega)
  have hu : u.length ≤ 16777216 := by omega
  have L1 := L [some (.val (.str (mkS u))), none] rfl
  rw [List.map_reverse] at L1
  have cr := chars_rev u
  unfold ft_wcon t_wcon
  rw [run_eq]
  simp [hu, cr, L1, j]
/-! ### whether a word is short, by the law -/
def l_isshort : M Fl := seqM (forS (asgR 1) (itR2 (argC (cst (.int 1)) (argC (callB fLen (argC (getM 0) (argN))) (argN)))) (ifS (tcmp fEq (bin fEq (bin fIx (getM 0) (getM 1)) (cst (.str "s"))) (bin fEq (bin fIx (getM 0) (bin fSub (getM 1) (cst (.int 1)))) (cst (.str "s")))) (retS (cst (.bool false))) (nilS)))
  (retS (cst (.bool true)))
def fl_isshort : List D → FO := runF 1 l_isshort
theorem eq_s {x : Nat} (hx : isLet x) : fEq (Lt x) (.str "s") = some (.val (.bool (decide (x = 115)))) := by
  rw [fEq_ss]
  have : decide ((⟨#[x]⟩ : Str) = "s") = decide (x = 115) := by rcases hx with rfl | rfl | rfl <;> decide
  rw [this]
theorem isshort_loop {u : List Nat} (su : Short u) (hn : u.length ≤ 1000000) : ∀ (n k : Nat) (x : Option T), 1 ≤ k → k + n ≤ u.length → ∃ x', forM (asgR 1) (ifS (tcmp fEq (bin fEq (bin fIx (getM 0) (getM 1)) (cst (.str "s"))) (bin fEq (bin fIx (getM 0) (bin fSub (getM 1) (cst (.int 1)))) (cst (.str "s")))) (retS (cst (.bool false))) (nilS)) (irange (k : Int) n) [some (.val (.str (mkS u))), x] = .ok .nx [some (.val (.str (mkS u))), x'] := by
  intro n
  induction n with
  | zero => exact fun k x _ _ => ⟨x, rfl⟩
  | succ n ih =>
    intro k x h1 h2
    obtain ⟨x', e⟩ := ih (k + 1) (some (.val (.int k))) (by omega) (by omega)
    refine ⟨x', ?_⟩
    rw [irange_cons, forM_cons, ← e]
    have ha : u[k]? = some u[k] := List.getElem?_eq_getElem (by omega)
    have hb : u[k - 1]? = some u[k - 1] := List.getElem?_eq_getElem (by omega)
    have ia := at_mkS (l := u) (k := (k : Int)) (c := u[k]) (by omega) (by simpa using ha) (by omega)
    have ib := at_mkS (l := u) (k := (k : Int) - 1) (c := u[k - 1]) (by omega) (by rw [show ((k : Int) - 1).toNat = k - 1 by omega]; exact hb) (by omega)
    have la := su.1 u[k] (List.getElem_mem ..)
    have lb := su.1 u[k - 1] (List.getElem_mem ..)
    have hj := su.2 (u.take (k - 1)) u[k - 1] u[k] (u.drop (k + 1)) (by
      have e1 : u = u.take (k - 1) ++ u.drop (k - 1) := (List.take_append_drop _ _).symm
      have e2 : u.drop (k - 1) = u[k - 1] :: u.drop (k - 1 + 1) := List.drop_eq_getElem_cons (by omega)
      have e3 : u.drop (k - 1 + 1) = u[k] :: u.drop (k + 1) := by
        have : k - 1 + 1 = k := by omega
        rw [this]
        exact List.drop_eq_getElem_cons (by omega)
      rw [e3] at e2
      rw [← e2]
      exact e1)
    have e1 := eq_s la
    have e2 := eq_s lb
    generalize u[k] = p at *
    generalize u[k - 1] = q at *
    have hne : ¬ (decide (p = 115) = decide (q = 115)) := by
      intro z
      have := decide_eq_decide.mp z
      omega
    have hne' : ¬ (p = 115 ↔ q = 115) := fun z => hne (by simp [z])
    simp [-fEq_ss, -fIx_s, ia, ib, e1, e2, hne']
theorem isshort_ok {u : List Nat} (su : Short u) (hn : u.length ≤ 1000000) : fl_isshort [.str (mkS u)] = .ok (.val (.bool true)) := by
  unfold fl_isshort l_isshort
  rw [run_eq]
  have hu : u.length ≤ 16777216 := by omega
  have hr : ∀ ρ : Rho, rngO2 ρ (some (.int 1)) (some (.int (u.length : Int))) = .ok (irange 1 (u.length - 1)) ρ := fun ρ => by
    rw [rngO2_int ρ (by omega) (by omega) (by omega) (by omega)]
    rw [show ((u.length : Int) - 1).toNat = u.length - 1 by omega]
  obtain ⟨x', e⟩ : ∃ x', forM (asgR 1) (ifS (tcmp fEq (bin fEq (bin fIx (getM 0) (getM 1)) (cst (.str "s"))) (bin fEq (bin fIx (getM 0) (bin fSub (getM 1) (cst (.int 1)))) (cst (.str "s")))) (retS (cst (.bool false))) (nilS)) (irange (1 : Int) (u.length - 1)) [some (.val (.str (mkS u))), none] = .ok .nx [some (.val (.str (mkS u))), x'] := by
    by_cases h : 1 ≤ u.length
    · exact isshort_loop su hn (u.length - 1) 1 none (by omega) (by omega)
    · rw [show u.length - 1 = 0 by omega]
      exact ⟨none, rfl⟩
  simp [hu, hr, e]
/-! ### the program's turning of a word -/
def t_turn : M Fl := seqM (setS 1 (cst (.tuple [(.int 1), (.int 0), (.int 0), (.int 1)])))
  (seqM (forS (asgR 2) (itA (getM 0)) (setS 1 (callF ft_times (argC (getM 1) (argC (M.bind (getM 2) (tabIx [("s", (.tuple [(.int 0), (.int (-1)), (.int 1), (.int 0)])), ("r", (.tuple [(.int 0), (.int (-1)), (.int 1), (.int (-1))])), ("q", (.tuple [(.int 1), (.int (-1)), (.int 1), (.int 0)]))])) (argN))))))
  (retS (getM 1)))
def ft_turn : List D → FO := runF 2 t_turn
theorem look_let {c : Nat} (h : isLet c) : List.lookup (⟨#[c]⟩ : Str) [("s", (M4.S.D : D)), ("r", M4.R.D), ("q", M4.Q.D)] = some (letM c).D := by
  have q1 : ((⟨#[115]⟩ : Str) == "s") = true := by decide +kernel
  have q2 : ((⟨#[114]⟩ : Str) == "s") = false := by decide +kernel
  have q3 : ((⟨#[114]⟩ : Str) == "r") = true := by decide +kernel
  have q4 : ((⟨#[113]⟩ : Str) == "s") = false := by decide +kernel
  have q5 : ((⟨#[113]⟩ : Str) == "r") = false := by decide +kernel
  have q6 : ((⟨#[113]⟩ : Str) == "q") = true := by decide +kernel
  rcases h with rfl | rfl | rfl
  · simp only [List.lookup, q1]
    rfl
  · simp only [List.lookup, q2, q3]
    rfl
  · simp only [List.lookup, q4, q5, q6]
    rfl
theorem turn_loop (z : Option T) : ∀ (l : List Nat) (m : M4) (k : Nat) (x : Option T), (∀ c ∈ l, isLet c) → m.lt k → m.det = 1 → k + l.length < 390000 → ∃ x', forM (asgR 2) (setS 1 (callF ft_times (argC (getM 1) (argC (M.bind (getM 2) (tabIx [("s", (.tuple [(.int 0), (.int (-1)), (.int 1), (.int 0)])), ("r", (.tuple [(.int 0), (.int (-1)), (.int 1), (.int (-1))])), ("q", (.tuple [(.int 1), (.int (-1)), (.int 1), (.int 0)]))])) (argN))))) (l.map Lt) [z, some (.val m.D), x] =
    .ok .nx [z, some (.val (l.foldl (fun m c => m.tm (letM c)) m).D), x']
  | [], m, k, x, _, _, _, _ => ⟨x, rfl⟩
  | c :: l, m, k, x, hl, hm, hd, hk => by
    have hc := hl c List.mem_cons_self
    have lc : (letM c).lt 1 := by unfold letM M4.lt; split <;> (try split) <;> decide
    have et := ttimes_ok hm lc (by simp at hk; omega) hd (letM_det c)
    obtain ⟨x', e⟩ := turn_loop z l (m.tm (letM c)) (k + 1) (some (.val (Lt c))) (fun c h => hl c (List.mem_cons_of_mem _ h)) (M4.tm_let hm c) (M4.det_tm hd (letM_det c)) (by simp at hk; omega)
    refine ⟨x', ?_⟩
    rw [List.foldl_cons, ← e, List.map_cons, forM_cons]
    have lk := look_let hc
    simp only [M4.D, M4.S, M4.R, M4.Q] at lk
    have sc : scalD (m.tm (letM c)).D = false := rfl
    have sc2 : scalD (letM c).D = false := rfl
    have sc3 : scalD m.D = false := rfl
    simp [lk, M4.D] at et ⊢
    simp [et]
theorem tturn_ok {l : List Nat} (hl : ∀ c ∈ l, isLet c) (hn : l.length < 300000) : ft_turn [.str (mkS l)] = .ok (.val (trn l).D) := by
  obtain ⟨x', e⟩ := turn_loop (some (.val (.str (mkS l)))) l M4.one 1 none hl one_lt rfl (by omega)
  unfold ft_turn t_turn
  rw [run_eq]
  have ec : chars (mkS l) = l.map Lt := by simp [chars]
  simp only [M4.D, M4.one] at e
  simp [ec, e, trn, M4.D, M4.one]
end DL

set_option Elab.async false
set_option maxRecDepth 100000
set_option maxHeartbeats 4000000
namespace DL
open PySem PySem.Spec PyProof.Rows L2
/-! ### what the law never comes to -/
section
variable {X : Cx} {W : WX}
theorem j_bad {e : Expr} {t : TE} (h : PE X e t) : True := trivial
theorem js_bad {s : Stmt} : JS X W s (fun _ => .bad) := ⟨fun pins s σ H Q I h => by
  obtain ⟨P, A, O, ρ, e, h⟩ := h
  exact h.elim⟩
end
/-! ### a < b < c, whole numbers -/
def chK (p p' : Int → Int → Bool) (mc : M R) (ra rb : R) : M R := fun ρ => match look ra ρ, look rb ρ with
  | some (.int i), some (.int j) => if p i j = true then (M.bind mc fun rc => op2 (fCmpI p') (.tmp (.val (.int j))) rc) ρ else .ok (.tmp (.val (.bool false))) ρ
  | _, _ => .bad
def chM (p p' : Int → Int → Bool) (ma mb mc : M R) : M R := M.bind ma fun ra => M.bind mb fun rb => chK p p' mc ra rb
section
variable {X : Cx} {W : WX} {a b c : Expr} {pos : PySem.Pos} {ma mb mc : M R} {p p' : Int → Int → Bool}
theorem ch_read {σ : L2.St} {H : Hp} {Q : VK} (h : tR X.K X.mg W (chM p p' ma mb mc) σ H Q) : tChain (rI0 fun i j => .bl (p i j)) (rI0 fun i j => .bl (p' i j)) (tR X.K X.mg W ma) (tR X.K X.mg W mb) (tR X.K X.mg W mc) σ H Q := by
  obtain ⟨P, A, O, ρ, e, h⟩ := h
  refine ⟨P, A, O, ρ, e, (Aft.bind (rl := relR X.K σ) h).mono ?_⟩
  rintro x H1 ⟨O1, ρ1, ra, F, e1, r1, s1, h1⟩
  refine ⟨F ++ P, A, O1, ρ1, e1, (Aft.bindP (rl := relR X.K σ) F s1.less h1).mono ?_⟩
  rintro y H2 ⟨O2, ρ2, rb, G, e2, r2, s2, h2⟩
  unfold chK at h2
  split at h2
  · rename_i i j q1 q2
    cases (look_vr e2.less.less (r1.step s2.less e1.off) q1).int
    cases (look_vr e2.less.less r2.less q2).int
    refine ⟨i, j, rfl, rfl, p i j, rfl, ?_⟩
    by_cases hk : p i j = true
    · rw [if_pos hk] at h2 ⊢
      have h3 := h2.step (s1.less.trans s2.less)
      refine ⟨P, A, O2, ρ2, e2.less.less, (Aft.bind (rl := relR X.K σ) h3).mono ?_⟩
      rintro w' H4 ⟨O4, ρ4, rc, F4, e4, r4, s4, h4⟩
      exact op2_ok cmpI_ok e4.less (rr_val (.int j)) r4 (h4.step s4.less)
    · rw [if_neg hk] at h2 ⊢
      have h3 := h2.step (s1.less.trans s2.less)
      exact h3.tmp e2.less.less (NewT.scal (.bl _))
  · exact h2.elim
theorem j_chain {op op' : CmpOp} (ho : OpR X (compareOp op) (rI0 fun i j => .bl (p i j))) (ho' : OpR X (compareOp op') (rI0 fun i j => .bl (p' i j))) (ha : JE X W a ma) (hb : JE X W b mb) (hc : JE X W c mc) (hm : lastMarks [op, op'] [b, c] = false) :
    JE X W (.Compare a [op, op'] [b, c] pos) (chM p p' ma mb mc) := (pe_chain ho ho' ha hb hc hm).imp fun _ _ _ h => ch_read h
theorem jb_chain {op op' : CmpOp} (ho : OpR X (compareOp op) (rI0 fun i j => .bl (p i j))) (ho' : OpR X (compareOp op') (rI0 fun i j => .bl (p' i j))) (ha : JE X W a ma) (hb : JE X W b mb) (hc : JE X W c mc) (hm : lastMarks [op, op'] [b, c] = false) :
    JB X W (.Compare a [op, op'] [b, c] pos) (M.bind (chM p p' ma mb mc) asB) := (pt_chain ho ho' ha hb hc hm).imp fun σ H Q h => by
  have h' : tR X.K X.mg W (chM p p' ma mb mc) σ H (fun x H1 => ∃ k, x = .bl k ∧ Q k H1) := by
    obtain ⟨P, A, O, ρ, e, h⟩ := h
    refine ⟨P, A, O, ρ, e, (Aft.bind (rl := relR X.K σ) h).mono ?_⟩
    rintro x H1 ⟨O1, ρ1, ra, F, e1, r1, s1, h1⟩
    exact asB_ok e1.less r1 (h1.step s1.less)
  exact ch_read h'
end
/-! ### list(range(n)) -/
theorem cr_range1 {X : Cx} : CallR X (.type "range") (fun vs H Q => ∃ j, vs = [V.int j] ∧ ∀ p, H p = none → Q (.ref p) (upd H p (.rng 0 j))) := by
  intro pins s σ H vs us Q I r h
  obtain ⟨j, rfl, q⟩ := h
  obtain ⟨u1, rfl, rj⟩ := vals1 r
  obtain ⟨t, rfl⟩ := rj
  refine PySem.call_range_1 ⟨.ref s.heap.objs.size, upd H s.heap.objs.size (.rng 0 j), I.laid (t' := s.toks + 1 + 1) (fun b o e => Heap.get?_push_of_some _ e) (Nat.le_refl _) ?_, rfl, q _ (I.hok.fresh (Nat.le_refl _))⟩
  exact ⟨s.toks, t, s.toks + 1, Heap.get?_push_size _ rfl⟩
theorem call_listR {X : Cx} (hc : X.calm = true) : CallR X (.type "list") (fun xs H Q => ∃ p j, xs = [.ref p] ∧ H p = some (.rng 0 j) ∧ 0 ≤ j ∧ j ≤ 1000000 ∧ ∀ l, H l = none → Q (.ref l) (upd H l (.lst ((List.range j.toNat).map fun (i : Nat) => V.int (i : Int))))) := by
  intro pins s σ H xs us Q I r h
  obtain ⟨p, j, rfl, hp, h0, h1, q⟩ := h
  obtain ⟨u, rfl, rx⟩ := vals1 r
  cases rx
  obtain ⟨t, u, v, hr⟩ := I.hok p _ hp
  have hn : Builtin.Range.rangeSize 0 j 1 = (j.toNat : Nat) := by
    rw [PySem.rangeSize_one]
    split <;> omega
  refine PySem.call_list_range (I.ok.hd hc) (n := j.toNat) hr (PySem.small_one (by omega) (by omega) (by omega) (by omega)) hn (by omega) (fun h' tk acc' c' hk hD hacc => ?_)
  have hv : Vals ((List.range j.toNat).map fun (i : Nat) => V.int (i : Int)) acc'.toList := by
    have key : ∀ (vs : List V) (us : List Value), us.length = vs.length → (∀ (i : Nat) (v : V) (x : Value), vs[i]? = some v → us[i]? = some x → RelV v x) → Vals vs us := by
      intro vs
      induction vs with
      | nil =>
        intro us hl _
        cases us with
        | nil => exact .nil
        | cons _ _ => cases hl
      | cons c cs ih =>
        intro us hl hj
        cases us with
        | nil => cases hl
        | cons u us => exact .cons (hj 0 c u rfl rfl) (ih us (by simpa using hl) fun i v x a b => hj (i + 1) v x a b)
    refine key _ _ ?_ fun i v x a b => ?_
    · rw [Array.length_toList, hacc.1, List.length_map, List.length_range]
    · obtain ⟨t', e1⟩ := hacc.2 i x (by rw [← Array.getElem?_toList]; exact b)
      rw [List.getElem?_map] at a
      obtain ⟨k, k1, k2⟩ := Option.map_eq_some_iff.mp a
      have : k = i := by
        have hi := (List.getElem?_eq_some_iff.mp k1)
        obtain ⟨h1, h2⟩ := hi
        rw [List.getElem_range] at h2
        exact h2.symm
      subst this
      subst k2
      exact ⟨t', by rw [e1]; simp⟩
  refine ⟨.ref s.heap.objs.size, upd H s.heap.objs.size (.lst ((List.range j.toNat).map fun (i : Nat) => V.int (i : Int))), I.laid (t' := tk) hk (Nat.le_refl _)
    (show ObjOk X.prog X.w _ _ _ (.lst ((List.range j.toNat).map fun (i : Nat) => V.int (i : Int))) from ⟨?_, acc'.toList, c', hv, by rw [Array.toArray_toList]; exact hD⟩), rfl, q _ (I.hok.fresh (Nat.le_refl _))⟩
  have := line63
  rw [List.length_map, List.length_range]
  unfold sizeLine
  omega
def lrM (rs : List R) : M R := fun ρ => match rs with
  | [r] => (match look r ρ with
    | some (.int j) => if 0 ≤ j ∧ j ≤ 1000000 then .ok (.tmp (.lst none (irange 0 j.toNat))) ρ else .bad
    | _ => .bad)
  | _ => .bad
theorem j_listRange {X : Cx} {W : WX} {a : Expr} {p p2 pos pos2 : PySem.Pos} {ms : M (List R)} (hc : X.calm = true) (hg : Gl X "range") (hm : X.mg "range" = none) (hg2 : Gl X "list") (hm2 : X.mg "list" = none) (ha : JEs X W [a] ms)
    (he : starEach [a] X.env = (false, eval a X.env) :: starEach [] X.env) (hpl : (backTo pos2 (starEach [] X.env)).any (·.1) = false)
    (he2 : starEach [.Call (.Name "range" p2) [a] [] pos2] X.env = (false, eval (.Call (.Name "range" p2) [a] [] pos2) X.env) :: starEach [] X.env) (hpl2 : (backTo pos (starEach [] X.env)).any (·.1) = false) :
    JE X W (.Call (.Name "list" p) [.Call (.Name "range" p2) [a] [] pos2] [] pos) (M.bind ms lrM) :=
  (pe_callTy (call_listR hc) hg2 hm2 (by decide +kernel) (pa_cons (pe_callTy cr_range1 hg hm (by decide +kernel) ha (by decide) (by decide) he hpl) pa_nil he2) (by decide) (by decide) he2 hpl2).imp fun σ H Q h => by
    obtain ⟨P, A, O, ρ, e, h⟩ := h
    show tRs X.K X.mg W ms σ H _
    refine ⟨P, A, O, ρ, e, (Aft.bind (rl := relRs X.K σ) h).mono ?_⟩
    rintro vs H1 ⟨O1, ρ1, rs, F, e1, r1, s1, h1⟩
    unfold lrM at h1
    split at h1
    · obtain ⟨v, rfl, hv⟩ := rrs1 e1.less r1
      split at h1
      · rename_i j q
        split at h1
        · rename_i hj
          cases (hv _ q).int
          refine ⟨j, rfl, fun r hr => ?_⟩
          refine ⟨r, j, rfl, upd_same, hj.1, hj.2, fun l hl => ?_⟩
          have hl0 : H1 l = none := by
            by_cases z : l = r
            · rw [z, upd_same] at hl
              cases hl
            · rw [upd_ne z] at hl
              exact hl
          have more : ∀ b o, H1 b = some o → upd (upd H1 r (.rng 0 j)) l (.lst ((List.range j.toNat).map fun (i : Nat) => V.int (i : Int))) b = some o := fun b o z => by
            rw [upd_ne (ne_of_none z hl0), upd_ne (ne_of_none z hr)]
            exact z
          have rp : ∀ Hx : Hp, RpAll X.K Hx ((List.range j.toNat).map fun (i : Nat) => V.int (i : Int)) (irange 0 j.toNat) := fun Hx => by
            unfold irange
            generalize List.range j.toNat = ns
            induction ns with
            | nil => exact .nil
            | cons k ns ih =>
              refine .cons ?_ ih
              show Rp X.K Hx (V.int (k : Int)) (PyData.int (0 + (k : Int)))
              rw [Int.zero_add]
              exact .int _
          exact (h1.step s1.less).tmp e1.less ⟨more, ⟨[l], .lst (List.mem_append_left _ (List.mem_singleton.mpr rfl)) upd_same (rp _), fun a ha => by rw [List.mem_singleton.mp ha]; exact hl0⟩, fun _ _ z => by cases z⟩
        · exact h1.elim
      · exact h1.elim
    · exact h1.elim
abbrev badS : M Fl := fun _ => .bad
end DL

set_option Elab.async false
set_option maxRecDepth 100000
set_option maxHeartbeats 4000000
namespace DL
open PySem L2
/-! ### fans: fractions -/
abbrev P2 := Int × Int
def fD (p : P2) : D := .tuple [.int p.1, .int p.2]
def crs (x y : P2) : Int := y.1 * x.2 - x.1 * y.2
def Far : List P2 → Prop
  | [] => True
  | [_] => True
  | x :: y :: t => crs x y = 1 ∧ Far (y :: t)
def med (x y : P2) : P2 := (x.1 + y.1, x.2 + y.2)
theorem Far.ins : ∀ {A : List P2} {x y : P2} {B : List P2}, Far (A ++ x :: y :: B) → Far (A ++ x :: med x y :: y :: B)
  | [], x, y, B, h => by
    obtain ⟨h1, h2⟩ := h
    refine ⟨?_, ?_, h2⟩
    · unfold crs med at *
      dsimp only
      grind
    · unfold crs med at *
      dsimp only
      grind
  | [a], x, y, B, h => ⟨h.1, Far.ins (A := []) h.2⟩
  | a :: b :: A, x, y, B, h => ⟨h.1, Far.ins (A := b :: A) h.2⟩
theorem Far.at_ : ∀ {l : List P2} {i : Nat} {x y : P2}, Far l → l[i]? = some x → l[i + 1]? = some y → crs x y = 1
  | [], i, x, y, _, h1, _ => by simp at h1
  | [_], i, x, y, _, _, h2 => by simp at h2
  | a :: b :: t, 0, x, y, h, h1, h2 => by
    simp at h1 h2
    subst h1 h2
    exact h.1
  | a :: b :: t, i + 1, x, y, h, h1, h2 => Far.at_ (l := b :: t) (i := i) h.2 (by simpa using h1) (by simpa using h2)
def Bd (N : Nat) (l : List P2) : Prop := ∀ x ∈ l, x.1.natAbs ≤ N ∧ x.2.natAbs ≤ N
/-- a row: -1/0, what lies within, 1/0 -/
structure RowF (mid : List P2) : Prop where
  far : Far ((-1, 0) :: mid ++ [(1, 0)])
  pos : ∀ x ∈ mid, 1 ≤ x.2
  zero : (0, 1) ∈ mid
  bd : Bd (2 ^ mid.length) mid
theorem row0 : RowF [(0, 1)] := ⟨by simp [Far, crs], by simp, by simp, by simp [Bd]⟩
def full (mid : List P2) : List P2 := (-1, 0) :: mid ++ [(1, 0)]
theorem full_len (mid : List P2) : (full mid).length = mid.length + 2 := by simp [full]
theorem mid_ne {mid : List P2} (h : RowF mid) : mid ≠ [] := fun z => by
  have := h.zero
  rw [z] at this
  cases this
/-- one more within -/
theorem row_ins {mid : List P2} (h : RowF mid) {k : Nat} (hk : k ≤ mid.length) : ∃ (x y : P2) (mid' : List P2), (full mid)[k]? = some x ∧ (full mid)[k + 1]? = some y ∧ x.1.natAbs ≤ 2 ^ mid.length ∧ x.2.natAbs ≤ 2 ^ mid.length ∧ y.1.natAbs ≤ 2 ^ mid.length ∧ y.2.natAbs ≤ 2 ^ mid.length ∧
    (full mid).take (k + 1) ++ [med x y] ++ (full mid).drop (k + 1) = full mid' ∧ mid'.length = mid.length + 1 ∧ RowF mid' := by
  have hl := full_len mid
  have hx : (full mid)[k]? = some ((full mid)[k]'(by omega)) := List.getElem?_eq_getElem (by omega)
  have hy : (full mid)[k + 1]? = some ((full mid)[k + 1]'(by omega)) := List.getElem?_eq_getElem (by omega)
  generalize hxe : (full mid)[k]'(by omega) = x at hx
  generalize hye : (full mid)[k + 1]'(by omega) = y at hy
  have two : 1 ≤ 2 ^ mid.length := Nat.one_le_two_pow
  have mem : ∀ z ∈ full mid, z.1.natAbs ≤ 2 ^ mid.length ∧ z.2.natAbs ≤ 2 ^ mid.length := fun z hz => by
    unfold full at hz
    rw [List.cons_append] at hz
    rcases List.mem_cons.mp hz with rfl | hz
    · exact ⟨by simpa using two, by simp⟩
    · rcases List.mem_append.mp hz with hz | hz
      · exact h.bd z hz
      · rw [List.mem_singleton.mp hz]
        exact ⟨by simpa using two, by simp⟩
  have mx := mem x (List.mem_of_getElem? hx)
  have my := mem y (List.mem_of_getElem? hy)
  have split : full mid = (full mid).take k ++ x :: y :: (full mid).drop (k + 2) := by
    have e1 : (full mid).drop k = x :: (full mid).drop (k + 1) := by
      rw [List.drop_eq_getElem_cons (show k < (full mid).length by omega), hxe]
    have e2 : (full mid).drop (k + 1) = y :: (full mid).drop (k + 2) := by
      rw [List.drop_eq_getElem_cons (show k + 1 < (full mid).length by omega), hye]
    rw [← e2, ← e1, List.take_append_drop]
  have et : (full mid).take (k + 1) ++ [med x y] ++ (full mid).drop (k + 1) = (full mid).take k ++ x :: med x y :: y :: (full mid).drop (k + 2) := by
    have e2 : (full mid).drop (k + 1) = y :: (full mid).drop (k + 2) := by
      rw [List.drop_eq_getElem_cons (show k + 1 < (full mid).length by omega), hye]
    have e3 : (full mid).take (k + 1) = (full mid).take k ++ [x] := by
      rw [List.take_add_one, hx]
      rfl
    rw [e2, e3]
    simp
  have hfar : Far ((full mid).take k ++ x :: med x y :: y :: (full mid).drop (k + 2)) := Far.ins (by rw [← split]; exact h.far)
  have e4 : (full mid).take (k + 1) = (-1, 0) :: mid.take k := by
    show ((-1, 0) :: (mid ++ [(1, 0)])).take (k + 1) = _
    rw [List.take_succ_cons, List.take_append_of_le_length hk]
  have e5 : (full mid).drop (k + 1) = mid.drop k ++ [(1, 0)] := by
    show ((-1, 0) :: (mid ++ [(1, 0)])).drop (k + 1) = _
    rw [List.drop_succ_cons, List.drop_append_of_le_length hk]
  have ef : (full mid).take (k + 1) ++ [med x y] ++ (full mid).drop (k + 1) = full (mid.take k ++ [med x y] ++ mid.drop k) := by
    rw [e4, e5]
    simp [full]
  refine ⟨x, y, mid.take k ++ [med x y] ++ mid.drop k, hx, hy, mx.1, mx.2, my.1, my.2, ef, ?_, ?_⟩
  · simp only [List.length_append, List.length_take, List.length_drop, List.length_cons, List.length_nil]
    omega
  · have hl2 : (mid.take k ++ [med x y] ++ mid.drop k).length = mid.length + 1 := by
      simp only [List.length_append, List.length_take, List.length_drop, List.length_cons, List.length_nil]
      omega
    have pos2 : 0 ≤ x.2 ∧ 0 ≤ y.2 ∧ 1 ≤ x.2 + y.2 := by
      have key : ∀ z ∈ full mid, 0 ≤ z.2 := fun z hz => by
        unfold full at hz
        rw [List.cons_append] at hz
        rcases List.mem_cons.mp hz with rfl | hz
        · simp
        · rcases List.mem_append.mp hz with hz | hz
          · have := h.pos z hz
            omega
          · rw [List.mem_singleton.mp hz]
            simp
      have kx := key x (List.mem_of_getElem? hx)
      have ky := key y (List.mem_of_getElem? hy)
      have hc := h.far.at_ hx hy
      unfold crs at hc
      refine ⟨kx, ky, ?_⟩
      rcases Int.lt_or_le 0 (x.2 + y.2) with z | z
      · omega
      · have z1 : x.2 = 0 := by omega
        have z2 : y.2 = 0 := by omega
        rw [z1, z2] at hc
        simp at hc
    refine ⟨?_, fun z hz => ?_, ?_, ?_⟩
    · have : ((-1, 0) : P2) :: (mid.take k ++ [med x y] ++ mid.drop k) ++ [(1, 0)] = full (mid.take k ++ [med x y] ++ mid.drop k) := rfl
      rw [this, ← ef, et]
      exact hfar
    · rcases List.mem_append.mp hz with hz | hz
      · rcases List.mem_append.mp hz with hz | hz
        · exact h.pos z (List.mem_of_mem_take hz)
        · rw [List.mem_singleton.mp hz]
          exact pos2.2.2
      · exact h.pos z (List.mem_of_mem_drop hz)
    · have hz := h.zero
      rw [← List.take_append_drop k mid] at hz
      rcases List.mem_append.mp hz with hz | hz
      · exact List.mem_append_left _ (List.mem_append_left _ hz)
      · exact List.mem_append_right _ hz
    · rw [hl2]
      have dbl : 2 ^ (mid.length + 1) = 2 ^ mid.length * 2 := Nat.pow_succ ..
      intro z hz
      rcases List.mem_append.mp hz with hz | hz
      · rcases List.mem_append.mp hz with hz | hz
        · have := h.bd z (List.mem_of_mem_take hz)
          omega
        · rw [List.mem_singleton.mp hz]
          unfold med
          dsimp only
          omega
      · have := h.bd z (List.mem_of_mem_drop hz)
        omega
def l_fracs : M Fl := seqM (setS 2 (lstM (argC (tupM (argC (un fNeg (cst (.int 1))) (argC (cst (.int 0)) (argN)))) (argC (tupM (argC (cst (.int 0)) (argC (cst (.int 1)) (argN)))) (argC (tupM (argC (cst (.int 1)) (argC (cst (.int 0)) (argN)))) (argN))))))
  (seqM (forS (asgR 3) (itR1 (argC (bin fSub (getM 0) (cst (.int 2))) (argN))) (seqM (setS 4 (bin fMod (bin fIx (getM 1) (getM 3)) (bin fSub (callB fLen (argC (getM 2) (argN))) (cst (.int 1)))))
  (exS (muE fIns (getM 2) (argC (bin fAdd (getM 4) (cst (.int 1))) (argC (tupM (argC (bin fAdd (bin fIx (bin fIx (getM 2) (getM 4)) (cst (.int 0))) (bin fIx (bin fIx (getM 2) (bin fAdd (getM 4) (cst (.int 1)))) (cst (.int 0)))) (argC (bin fAdd (bin fIx (bin fIx (getM 2) (getM 4)) (cst (.int 1))) (bin fIx (bin fIx (getM 2) (bin fAdd (getM 4) (cst (.int 1)))) (cst (.int 1)))) (argN)))) (argN)))))))
  (retS (callB fTuple (argC (bin fAdd (lstM (argC (tupM (argC (cst (.int 1)) (argC (cst (.int 0)) (argN)))) (argN))) (slM (getM 2) (M.bind (cst (.int 1)) asInt) (M.bind (bin fSub (callB fLen (argC (getM 2) (argN))) (cst (.int 1))) asInt))) (argN)))))
def fl_fracs : List D → FO := runF 3 l_fracs
def frM : M Fl := seqM (setS 4 (bin fMod (bin fIx (getM 1) (getM 3)) (bin fSub (callB fLen (argC (getM 2) (argN))) (cst (.int 1)))))
  (exS (muE fIns (getM 2) (argC (bin fAdd (getM 4) (cst (.int 1))) (argC (tupM (argC (bin fAdd (bin fIx (bin fIx (getM 2) (getM 4)) (cst (.int 0))) (bin fIx (bin fIx (getM 2) (bin fAdd (getM 4) (cst (.int 1)))) (cst (.int 0)))) (argC (bin fAdd (bin fIx (bin fIx (getM 2) (getM 4)) (cst (.int 1))) (bin fIx (bin fIx (getM 2) (bin fAdd (getM 4) (cst (.int 1)))) (cst (.int 1)))) (argN)))) (argN)))))
theorem at_fD {l : List P2} {k : Int} {x : P2} (h0 : 0 ≤ k) (h : l[k.toNat]? = some x) : atI (l.map fD) k = some (.tuple [.int x.1, .int x.2]) := by
  have e := atI_n (l := l.map fD) (k := k.toNat) (a := fD x) (by rw [List.getElem?_map, h]; rfl)
  rwa [show ((k.toNat : Nat) : Int) = k by omega] at e
theorem fr_step {ds : List Int} {mid : List P2} (h : RowF mid) (hm : mid.length ≤ 100) {k : Nat} (hk : k < ds.length) (x0 x4 : Option T) : ∃ (mid' : List P2) (y4 : Option T), mid'.length = mid.length + 1 ∧ RowF mid' ∧
    frM [x0, some (.val (.list (ds.map .int))), some (.lst none ((full mid).map fD)), some (.val (.int k)), x4] = .ok .nx [x0, some (.val (.list (ds.map .int))), some (.lst none ((full mid').map fD)), some (.val (.int k)), y4] := by
  have ha := at_row (r := ds) hk
  generalize ds.getD k 0 = d at ha
  have hl := full_len mid
  have g := fmod_pos (a := d) (b := (mid.length : Int) + 1) (by omega)
  have n1 : (mid.length : Int) + 1 ≠ 0 := by omega
  generalize hat : d.fmod ((mid.length : Int) + 1) = a at g
  obtain ⟨x, y, mid', e1, e2, b1, b2, b3, b4, e3, e4, e5⟩ := row_ins h (k := a.toNat) (by omega)
  have i1 := at_fD (l := full mid) (k := a) g.1 e1
  have i2 := at_fD (l := full mid) (k := a + 1) (by omega) (by rw [show (a + 1).toNat = a.toNat + 1 by omega]; exact e2)
  have hfl : ((full mid).map fD).length = mid.length + 2 := by rw [List.length_map, hl]
  have ins : fIns ((full mid).map fD) [.int (a + 1), .tuple [.int (x.1 + y.1), .int (x.2 + y.2)]] = some ((full mid').map fD, .none) := by
    have := fIns_nat (es := (full mid).map fD) (k := a.toNat + 1) (d := .tuple [.int (x.1 + y.1), .int (x.2 + y.2)]) (by rw [hfl]; omega) (by rw [hfl]; omega)
    rw [show ((a.toNat + 1 : Nat) : Int) = a + 1 by omega] at this
    rw [this, ← e3, List.map_append, List.map_append, List.map_take, List.map_drop]
    rfl
  refine ⟨mid', some (.val (.int a)), e4, e5, ?_⟩
  have hsub : (mid.length : Int) + 2 - 1 = (mid.length : Int) + 1 := by omega
  unfold frM
  generalize (full mid).map fD = row at *
  generalize (full mid').map fD = row' at *
  simp [ha, hfl, hsub, n1, hat, i1, i2, ins]
theorem fracs_ok {ds : List Int} {n : Nat} (hn : 2 ≤ n) (hn2 : n ≤ 40) (hd : n ≤ ds.length + 2) : ∃ mid : List P2, RowF mid ∧ mid.length + 1 = n ∧ fl_fracs [.int n, .list (ds.map .int)] = .ok (.val (.tuple (((1, 0) :: mid).map fD))) := by
  have loop : ∀ (m k : Nat) (mid : List P2) (x3 x4 : Option T), RowF mid → mid.length + m ≤ 60 → k + m ≤ ds.length → ∃ (mid' : List P2) (y3 y4 : Option T), RowF mid' ∧ mid'.length = mid.length + m ∧
      forM (asgR 3) frM (irange (k : Int) m) [some (.val (.int n)), some (.val (.list (ds.map .int))), some (.lst none ((full mid).map fD)), x3, x4] = .ok .nx [some (.val (.int n)), some (.val (.list (ds.map .int))), some (.lst none ((full mid').map fD)), y3, y4] := by
    intro m
    induction m with
    | zero => exact fun k mid x3 x4 h1 h2 h3 => ⟨mid, x3, x4, h1, rfl, rfl⟩
    | succ m ih =>
      intro k mid x3 x4 h1 h2 h3
      obtain ⟨mid1, y4, q1, q2, e⟩ := fr_step (ds := ds) h1 (by omega) (k := k) (by omega) (some (.val (.int n))) x4
      obtain ⟨mid2, z3, z4, q3, q4, e2⟩ := ih (k + 1) mid1 (some (.val (.int k))) y4 q2 (by omega) (by omega)
      refine ⟨mid2, z3, z4, q3, by omega, ?_⟩
      rw [irange_cons, forM_cons, bind_ap]
      have ep : asgR 3 (.tmp (.val (.int k))) [some (.val (.int n)), some (.val (.list (ds.map .int))), some (.lst none ((full mid).map fD)), x3, x4] = .ok () [some (.val (.int n)), some (.val (.list (ds.map .int))), some (.lst none ((full mid).map fD)), some (.val (.int k)), x4] := by simp
      rw [ep, bnd_ok, e, bnd_ok, loop_nx]
      exact e2
  obtain ⟨mid, y3, y4, h1, h2, e⟩ := loop (n - 2) 0 [(0, 1)] none none row0 (by simp; omega) (by omega)
  simp only [List.length_cons, List.length_nil] at h2
  refine ⟨mid, h1, by omega, ?_⟩
  have hsl : fSl (.list ((full mid).map fD)) (some 1) (some ((mid.length : Int) + 1)) = some (.lst none (mid.map fD)) := by
    rw [fSl_l, List.length_map, full_len]
    have z1 : HT.sIx (mid.length + 2) 0 (some 1) = 1 := by
      rw [show (1 : Int) = ((1 : Nat) : Int) from rfl, HT.sIx_nat]
      omega
    have z2 : HT.sIx (mid.length + 2) (mid.length + 2) (some ((mid.length : Int) + 1)) = mid.length + 1 := by
      rw [show (mid.length : Int) + 1 = ((mid.length + 1 : Nat) : Int) by omega, HT.sIx_nat]
      omega
    rw [z1, z2]
    simp [full]
  have hrn := fun ρ => rng_nat ρ (n := n - 2) (by omega)
  have hc : ((n - 2 : Nat) : Int) = (n : Int) - 2 := by omega
  rw [hc] at hrn
  have hfl : ((full mid).map fD).length = mid.length + 2 := by rw [List.length_map, full_len]
  have hsub : (mid.length : Int) + 2 - 1 = (mid.length : Int) + 1 := by omega
  have hadd : fAdd (.list [.tuple [.int 1, .int 0]]) (.list (mid.map fD)) = some (.lst none (.tuple [.int 1, .int 0] :: mid.map fD)) := by
    rw [fAdd_ll _ _ (by simp; omega)]
    rfl
  have e0 : (full [(0, 1)]).map fD = [.tuple [.int (-1), .int 0], .tuple [.int 0, .int 1], .tuple [.int 1, .int 0]] := rfl
  rw [e0] at e
  have ec : ((1, 0) :: mid).map fD = .tuple [.int 1, .int 0] :: mid.map fD := rfl
  rw [ec]
  unfold fl_fracs l_fracs
  rw [run_eq]
  simp only [Int.natCast_zero, frM] at e
  generalize (full mid).map fD = row at *
  generalize mid.map fD = row' at *
  simp [-fSl_l, hrn, e, hfl, hsub, hsl, hadd]
/-! ### fans: marks -/
inductive Mk where
  | half | third | pair (j : Nat)
def mkD : Mk → D
  | .half => .str "half"
  | .third => .str "third"
  | .pair j => .int j
/-- marks that fit one another, but at the places that are left -/
structure MkOk (ms : List Mk) (left : List Nat) : Prop where
  sub : ∀ i ∈ left, i < ms.length
  nd : left.Nodup
  todo : ∀ i ∈ left, ms[i]? = some .half
  fit : ∀ (i j : Nat), ms[i]? = some (.pair j) → j ≠ i ∧ ms[j]? = some (.pair i) ∧ j ∉ left ∧ i ∉ left
theorem mk0 (n : Nat) : MkOk (List.replicate n .half) (List.range n) := by
  refine ⟨fun i hi => by simpa using hi, List.nodup_range, fun i hi => ?_, fun i j h => ?_⟩
  · rw [List.getElem?_replicate, if_pos (List.mem_range.mp hi)]
  · rw [List.getElem?_replicate] at h
    split at h <;> cases h
theorem mk_half {ms : List Mk} {g : Nat} {left : List Nat} (h : MkOk ms (g :: left)) : MkOk ms left := by
  refine ⟨fun i hi => h.sub i (List.mem_cons_of_mem _ hi), (List.nodup_cons.mp h.nd).2, fun i hi => h.todo i (List.mem_cons_of_mem _ hi), fun i j hj => ?_⟩
  obtain ⟨a, b, c, d⟩ := h.fit i j hj
  exact ⟨a, b, fun z => c (List.mem_cons_of_mem _ z), fun z => d (List.mem_cons_of_mem _ z)⟩
theorem mk_third {ms : List Mk} {g : Nat} {left : List Nat} (h : MkOk ms (g :: left)) : MkOk (ms.set g .third) left := by
  have hg := h.sub g List.mem_cons_self
  have hn := (List.nodup_cons.mp h.nd).1
  refine ⟨fun i hi => by rw [List.length_set]; exact h.sub i (List.mem_cons_of_mem _ hi), (List.nodup_cons.mp h.nd).2, fun i hi => ?_, fun i j hj => ?_⟩
  · rw [List.getElem?_set_ne (fun z => hn (by rw [z]; exact hi))]
    exact h.todo i (List.mem_cons_of_mem _ hi)
  · have hig : g ≠ i := fun z => by
      subst z
      rw [List.getElem?_set_self (by simpa using hg)] at hj
      cases hj
    rw [List.getElem?_set_ne hig] at hj
    obtain ⟨a, b, c, d⟩ := h.fit i j hj
    have hjg : g ≠ j := fun z => c (by rw [z]; exact List.mem_cons_self)
    refine ⟨a, by rw [List.getElem?_set_ne hjg]; exact b, fun z => c (List.mem_cons_of_mem _ z), fun z => d (List.mem_cons_of_mem _ z)⟩
theorem mk_pair {ms : List Mk} {g o : Nat} {left : List Nat} {k : Nat} (h : MkOk ms (g :: left)) (ho : left[k]? = some o) : MkOk ((ms.set g (.pair o)).set o (.pair g)) (left.eraseIdx k) := by
  have hg := h.sub g List.mem_cons_self
  obtain ⟨hn, hnd⟩ := List.nodup_cons.mp h.nd
  have hom := List.mem_of_getElem? ho
  have hol := h.sub o (List.mem_cons_of_mem _ hom)
  have hgo : g ≠ o := fun z => hn (by rw [z]; exact hom)
  have hk := (List.getElem?_eq_some_iff.mp ho).1
  have sub : ∀ i ∈ left.eraseIdx k, i ∈ left := fun i hi => List.mem_of_mem_eraseIdx hi
  have no : o ∉ left.eraseIdx k := fun z => by
    obtain ⟨i, hi, hik, e⟩ := List.mem_eraseIdx_iff_getElem?.mp z |> fun ⟨i, hi, e⟩ => (⟨i, trivial, hi, e⟩ : ∃ i, True ∧ i ≠ k ∧ left[i]? = some o)
    have hil := (List.getElem?_eq_some_iff.mp e).1
    exact hik ((List.getElem?_inj hil hnd).mp (e.trans ho.symm))
  have at_ : ∀ i, ((ms.set g (.pair o)).set o (.pair g))[i]? = if i = o then some (.pair g) else if i = g then some (.pair o) else ms[i]? := fun i => by
    by_cases h1 : i = o
    · subst h1
      rw [if_pos rfl, List.getElem?_set_self (by rw [List.length_set]; exact hol)]
    · rw [if_neg h1, List.getElem?_set_ne (Ne.symm h1)]
      by_cases h2 : i = g
      · subst h2
        rw [if_pos rfl, List.getElem?_set_self hg]
      · rw [if_neg h2, List.getElem?_set_ne (Ne.symm h2)]
  refine ⟨fun i hi => by rw [List.length_set, List.length_set]; exact h.sub i (List.mem_cons_of_mem _ (sub i hi)), hnd.eraseIdx k, fun i hi => ?_, fun i j hj => ?_⟩
  · have h1 : i ≠ o := fun z => no (by rw [← z]; exact hi)
    have h2 : i ≠ g := fun z => hn (by rw [← z]; exact sub i hi)
    rw [at_, if_neg h1, if_neg h2]
    exact h.todo i (List.mem_cons_of_mem _ (sub i hi))
  · rw [at_] at hj
    by_cases h1 : i = o
    · rw [if_pos h1] at hj
      cases hj
      subst h1
      exact ⟨hgo, by rw [at_, if_neg hgo, if_pos rfl], fun z => hn (sub _ z), no⟩
    · rw [if_neg h1] at hj
      by_cases h2 : i = g
      · rw [if_pos h2] at hj
        cases hj
        subst h2
        exact ⟨Ne.symm hgo, by rw [at_, if_pos rfl], no, fun z => hn (sub _ z)⟩
      · rw [if_neg h2] at hj
        obtain ⟨a, b, c, d⟩ := h.fit i j hj
        have j1 : j ≠ o := fun z => c (by rw [z]; exact List.mem_cons_of_mem _ hom)
        have j2 : j ≠ g := fun z => c (by rw [z]; exact List.mem_cons_self)
        exact ⟨a, by rw [at_, if_neg j1, if_neg j2]; exact b, fun z => c (List.mem_cons_of_mem _ (sub _ z)), fun z => d (List.mem_cons_of_mem _ (sub _ z))⟩
end DL

set_option Elab.async false
set_option maxRecDepth 100000
set_option maxHeartbeats 4000000
namespace DL
open PySem L2
def iD' (k : Nat) : D := .int (k : Int)
theorem lay_ints : ∀ l : List Nat, PyData.canLayAll0 (l.map iD') = true ∧ PyData.depthAll (l.map iD') = 0
  | [] => ⟨by simp [PyData.canLayAll0], by simp [PyData.depthAll]⟩
  | c :: l => by
    obtain ⟨h1, h2⟩ := lay_ints l
    simp only [List.map_cons, PyData.canLayAll0, PyData.depthAll, iD', PyData.canLay0, PyData.depth, Bool.true_and]
    exact ⟨h1, by rw [h2]; rfl⟩
theorem fne_nil {l : List Nat} : fNe (.list (l.map iD')) (.list []) = some (.val (.bool (!decide (l = [])))) := by
  obtain ⟨h1, h2⟩ := lay_ints l
  have s1 : SeqAt.shaped (.list (l.map iD')) = true := by
    unfold SeqAt.shaped
    simp only [PyData.canLay0, PyData.depth, h1, h2]
    decide
  have s2 : SeqAt.shaped (.list []) = true := by decide
  have e : eqD (.list (l.map iD')) (.list []) = some (decide (l = [])) := by
    have : eqS (.list (l.map iD')) (.list []) = none := rfl
    unfold eqD
    rw [this]
    simp only [s1, s2, Bool.and_self, if_true]
    cases l with
    | nil => rfl
    | cons c l => simp [PyData.eqv, PyData.eqvAll]
  unfold fNe
  rw [e]
  rfl
theorem lay_mk : ∀ ms : List Mk, PyData.canLayAll0 (ms.map mkD) = true ∧ PyData.depthAll (ms.map mkD) = 0
  | [] => ⟨by simp [PyData.canLayAll0], by simp [PyData.depthAll]⟩
  | c :: l => by
    obtain ⟨h1, h2⟩ := lay_mk l
    cases c <;> simp only [List.map_cons, PyData.canLayAll0, PyData.depthAll, mkD, PyData.canLay0, PyData.depth, Bool.true_and, h2]
    · exact ⟨by rw [Bool.and_eq_true]; exact ⟨by decide +kernel, h1⟩, rfl⟩
    · exact ⟨by rw [Bool.and_eq_true]; exact ⟨by decide +kernel, h1⟩, rfl⟩
    · exact ⟨h1, rfl⟩
def isThird : Mk → Bool
  | .third => true
  | _ => false
theorem eqv_third (m : Mk) : PyData.eqv (mkD m) (.str "third") = isThird m := by
  cases m with
  | half => exact (by decide +kernel : ((("half" : Str) == ("third" : Str)) = false))
  | third => exact (by decide +kernel : ((("third" : Str) == ("third" : Str)) = true))
  | pair j => rfl
theorem notin_third (ms : List Mk) : fNotIn (.str "third") (.list (ms.map mkD)) = some (.val (.bool (!ms.any isThird))) := by
  obtain ⟨h1, h2⟩ := lay_mk ms
  have s1 : SeqAt.shaped (.list (ms.map mkD)) = true := by
    unfold SeqAt.shaped
    simp only [PyData.canLay0, PyData.depth, h1, h2]
    decide
  have s2 : SeqAt.shaped (.str "third") = true := by decide +kernel
  have e : inD (.str "third") (.list (ms.map mkD)) = some (ms.any isThird) := by
    have ea : (ms.map mkD).any (fun z => PyData.eqv z (.str "third")) = ms.any isThird := by
      rw [List.any_map]
      congr 1
      funext m
      exact eqv_third m
    show inL _ _ = _
    unfold inL
    rw [ea]
    split
    · rfl
    · rw [if_pos (by rw [s1, s2]; rfl)]
  unfold fNotIn
  rw [e]
  rfl
theorem set_mk {ms : List Mk} {g : Nat} (hg : g < ms.length) (v : Mk) (i : Nat) (ρ : Rho) (tag : Option Nat) : subO i (mkD v) ρ (some (.int (g : Int))) (some (some (.lst tag (ms.map mkD)))) = .ok () (ρ.set i (some (.lst tag ((ms.set g v).map mkD)))) := by
  refine subO_ok ?_
  unfold fSetL ixN
  simp only [List.length_map]
  rw [if_pos (by omega), if_pos (by omega)]
  simp
def mrC : M Bool := tcmp fNe (getM 3) (lstM (argN))
def mrM : M Fl := seqM (setS 5 (muE fPopAt (getM 3) (argC (cst (.int 0)) (argN))))
  (seqM (setS 6 (bin fMod (bin fIx (getM 1) (getM 4)) (cst (.int 4))))
  (seqM (ifS (tcmp fEq (getM 6) (cst (.int 1))) (asgS (asgSub (getM 2) (getM 5)) (cst (.str "third"))) (nilS))
  (seqM (ifS (andM (tcmp fGt (getM 6) (cst (.int 1))) (tcmp fNe (getM 3) (lstM (argN)))) (seqM (setS 7 (muE fPopAt (getM 3) (argC (bin fMod (bin fIx (getM 1) (bin fAdd (getM 4) (cst (.int 22)))) (callB fLen (argC (getM 3) (argN)))) (argN))))
  (seqM (asgS (asgSub (getM 2) (getM 5)) (getM 7))
  (asgS (asgSub (getM 2) (getM 7)) (getM 5)))) (nilS))
  (setS 4 (bin fAdd (getM 4) (cst (.int 1)))))))
abbrev mrS (x0 : Option T) (ds : List Int) (ms : List Mk) (left : List Nat) (k : Nat) (x5 x6 x7 : Option T) : Rho := [x0, some (.val (.list (ds.map .int))), some (.lst none (ms.map mkD)), some (.lst none (left.map iD')), some (.val (.int k)), x5, x6, x7]
theorem mr_step {ds : List Int} {ms : List Mk} {g : Nat} {left : List Nat} (h : MkOk ms (g :: left)) {k : Nat} (hk : k + 22 < ds.length) (hl : left.length ≤ 1000) (x0 x5 x6 x7 : Option T) : ∃ (ms' : List Mk) (left' : List Nat) (y5 y6 y7 : Option T), MkOk ms' left' ∧ ms'.length = ms.length ∧ left'.length ≤ left.length ∧
    mrM (mrS x0 ds ms (g :: left) k x5 x6 x7) = .ok .nx (mrS x0 ds ms' left' (k + 1) y5 y6 y7) := by
  have a1 := at_row (r := ds) (k := k) (by omega)
  have a2 := at_row (r := ds) (k := k + 22) (by omega)
  generalize ds.getD k 0 = d1 at *
  generalize ds.getD (k + 22) 0 = d2 at *
  rw [Int.natCast_add] at a2
  have a2' : atI (ds.map PyData.int) ((k : Int) + 22) = some (.int d2) := a2
  have hg := h.sub g List.mem_cons_self
  have p0 : fPopAt ((g :: left).map iD') [.int 0] = some (left.map iD', .int (g : Int)) := by
    have := fPopAt_nat (es := (g :: left).map iD') (k := 0) (d := iD' g) rfl (by simp; omega)
    exact this
  have g4 := fmod_pos (a := d1) (b := 4) (by decide)
  have kc : ((k : Int) + 1) = ((k + 1 : Nat) : Int) := by omega
  have nl := fne_nil (l := left)
  have st := set_mk hg .third 2
  unfold mrM mrS
  by_cases w1 : d1.fmod 4 = 1
  · refine ⟨ms.set g .third, left, some (.val (.int g)), some (.val (.int 1)), x7, mk_third h, by simp, Nat.le_refl _, ?_⟩
    have st' : ∀ (ρ : Rho) (tag : Option Nat), subO 2 (.str "third") ρ (some (.int (g : Int))) (some (some (.lst tag (ms.map mkD)))) = .ok () (ρ.set 2 (some (.lst tag ((ms.set g .third).map mkD)))) := st
    generalize ms.map mkD = M0 at *
    generalize (ms.set g .third).map mkD = M1 at *
    simp only [List.map_cons] at p0 ⊢
    simp [p0, a1, w1, st']
  · by_cases w2 : 1 < d1.fmod 4 ∧ left ≠ []
    · obtain ⟨w3, w4⟩ := w2
      have hll : 0 < left.length := by
        cases left with
        | nil => exact absurd rfl w4
        | cons _ _ => simp
      have hlz : ¬ left.length = 0 := by omega
      have gp := fmod_pos (a := d2) (b := (left.length : Int)) (by omega)
      generalize hp : d2.fmod (left.length : Int) = p at gp
      have ho : left[p.toNat]? = some (left[p.toNat]'(by omega)) := List.getElem?_eq_getElem (by omega)
      generalize left[p.toNat]'(by omega) = o at ho
      have p1 : fPopAt (left.map iD') [.int p] = some ((left.eraseIdx p.toNat).map iD', .int (o : Int)) := by
        have := fPopAt_nat (es := left.map iD') (k := p.toNat) (d := iD' o) (by rw [List.getElem?_map, ho]; rfl) (by simp; omega)
        rw [show ((p.toNat : Nat) : Int) = p by omega] at this
        rw [this]
        congr 2
        rw [List.eraseIdx_eq_take_drop_succ, List.eraseIdx_eq_take_drop_succ, List.map_append, List.map_take, List.map_drop]
      have hol := h.sub o (List.mem_cons_of_mem _ (List.mem_of_getElem? ho))
      have s1 : ∀ (ρ : Rho) (tag : Option Nat), subO 2 (.int (o : Int)) ρ (some (.int (g : Int))) (some (some (.lst tag (ms.map mkD)))) = .ok () (ρ.set 2 (some (.lst tag ((ms.set g (.pair o)).map mkD)))) := set_mk hg (.pair o) 2
      have s2 : ∀ (ρ : Rho) (tag : Option Nat), subO 2 (.int (g : Int)) ρ (some (.int (o : Int))) (some (some (.lst tag ((ms.set g (.pair o)).map mkD)))) = .ok () (ρ.set 2 (some (.lst tag (((ms.set g (.pair o)).set o (.pair g)).map mkD)))) := set_mk (by rw [List.length_set]; exact hol) (.pair g) 2
      refine ⟨(ms.set g (.pair o)).set o (.pair g), left.eraseIdx p.toNat, some (.val (.int g)), some (.val (.int (d1.fmod 4))), some (.val (.int o)), mk_pair h ho, by simp, by rw [List.length_eraseIdx]; split <;> omega, ?_⟩
      have nl' : fNe (.list (left.map iD')) (.list []) = some (.val (.bool true)) := by rw [nl]; simp [w4]
      have hml : (left.map iD').length = left.length := by simp
      generalize ms.map mkD = M0 at *
      generalize (ms.set g (.pair o)).map mkD = M1 at *
      generalize ((ms.set g (.pair o)).set o (.pair g)).map mkD = M2 at *
      generalize (left.eraseIdx p.toNat).map iD' = L1 at *
      simp only [List.map_cons] at p0 ⊢
      generalize left.map iD' = L0 at *
      simp [p0, a1, a2', w1, w3, nl', hml, hlz, hp, p1, s1, s2]
    · refine ⟨ms, left, some (.val (.int g)), some (.val (.int (d1.fmod 4))), x7, mk_half h, rfl, Nat.le_refl _, ?_⟩
      simp only [List.map_cons] at p0 ⊢
      by_cases w3 : 1 < d1.fmod 4
      · have w4 : left = [] := Decidable.by_contra fun z => w2 ⟨w3, z⟩
        have nl' : fNe (.list (left.map iD')) (.list []) = some (.val (.bool false)) := by rw [nl]; simp [w4]
        generalize ms.map mkD = M0 at *
        generalize left.map iD' = L0 at *
        simp [p0, a1, w1, w3, nl']
      · generalize ms.map mkD = M0 at *
        generalize left.map iD' = L0 at *
        simp [p0, a1, w1, w3]
theorem mr_loop {ds : List Int} (x0 : Option T) : ∀ (N : Nat) (ms : List Mk) (left : List Nat) (k : Nat) (x5 x6 x7 : Option T), left.length ≤ N → MkOk ms left → k + N + 22 ≤ ds.length → N ≤ 1000 → ∃ (ms' : List Mk) (k' : Nat) (y5 y6 y7 : Option T), MkOk ms' [] ∧ ms'.length = ms.length ∧
    whileC mrC mrM (mrS x0 ds ms left k x5 x6 x7) = .ok .nx (mrS x0 ds ms' [] k' y5 y6 y7) := by
  intro N
  induction N with
  | zero =>
    intro ms left k x5 x6 x7 hN h hk h1
    have hl : left = [] := List.eq_nil_of_length_eq_zero (by omega)
    subst hl
    refine ⟨ms, k, x5, x6, x7, h, rfl, ?_⟩
    have nl := fne_nil (l := [])
    have e : mrC (mrS x0 ds ms [] k x5 x6 x7) = .ok false (mrS x0 ds ms [] k x5 x6 x7) := by
      unfold mrC mrS
      simp only [List.map_nil] at nl ⊢
      simp [nl]
    rw [while_ap, e, bnd_ok, if_neg (by decide)]
    rfl
  | succ N ih =>
    intro ms left k x5 x6 x7 hN h hk h1
    cases left with
    | nil => exact ih ms [] k x5 x6 x7 (Nat.zero_le _) h (by omega) (by omega)
    | cons g left =>
      simp only [List.length_cons] at hN
      obtain ⟨ms1, left1, y5, y6, y7, q1, q2, q3, e⟩ := mr_step h (ds := ds) (k := k) (by omega) (by omega) x0 x5 x6 x7
      obtain ⟨ms2, k2, z5, z6, z7, q4, q5, e2⟩ := ih ms1 left1 (k + 1) y5 y6 y7 (by omega) q1 (by omega) (by omega)
      refine ⟨ms2, k2, z5, z6, z7, q4, by omega, ?_⟩
      have nl := fne_nil (l := g :: left)
      have ec : mrC (mrS x0 ds ms (g :: left) k x5 x6 x7) = .ok true (mrS x0 ds ms (g :: left) k x5 x6 x7) := by
        unfold mrC mrS
        simp only [List.map_cons] at nl ⊢
        simp [nl]
      rw [while_ap, ec, bnd_ok, if_pos rfl, bind_ap, e, bnd_ok, loop_nx]
      exact e2
def lrO (ρ : Rho) : Option D → Out R
  | some (.int j) => if 0 ≤ j ∧ j ≤ 1000000 then .ok (.tmp (.lst none (irange 0 j.toNat))) ρ else .bad
  | _ => .bad
@[simp] theorem lrM_ap (r : R) (ρ : Rho) : lrM [r] ρ = lrO ρ (look r ρ) := (rfl)
theorem lrO_nat (ρ : Rho) {n : Nat} (h : n ≤ 1000000) : lrO ρ (some (.int (n : Int))) = .ok (.tmp (.lst none (irange 0 n))) ρ := by
  show (if 0 ≤ (n : Int) ∧ (n : Int) ≤ 1000000 then _ else _) = _
  rw [if_pos (by omega), Int.toNat_natCast]
noncomputable def l_marks' : M Fl := seqM (setS 2 (lcM (put1 5) (M.ret true) (cst (.str "half")) [5] (itR1 (argC (getM 0) (argN)))))
  (seqM (setS 3 (M.bind (argC (getM 0) (argN)) lrM))
  (seqM (setS 4 (cst (.int 0)))
  (seqM (whileC (tcmp fNe (getM 3) (lstM (argN))) (seqM (setS 5 (muE fPopAt (getM 3) (argC (cst (.int 0)) (argN))))
  (seqM (setS 6 (bin fMod (bin fIx (getM 1) (getM 4)) (cst (.int 4))))
  (seqM (ifS (tcmp fEq (getM 6) (cst (.int 1))) (asgS (asgSub (getM 2) (getM 5)) (cst (.str "third"))) (nilS))
  (seqM (ifS (andM (tcmp fGt (getM 6) (cst (.int 1))) (tcmp fNe (getM 3) (lstM (argN)))) (seqM (setS 7 (muE fPopAt (getM 3) (argC (bin fMod (bin fIx (getM 1) (bin fAdd (getM 4) (cst (.int 22)))) (callB fLen (argC (getM 3) (argN)))) (argN))))
  (seqM (asgS (asgSub (getM 2) (getM 5)) (getM 7))
  (asgS (asgSub (getM 2) (getM 7)) (getM 5)))) (nilS))
  (setS 4 (bin fAdd (getM 4) (cst (.int 1)))))))))
  (seqM (ifS (andM (tcmp fEq (getM 0) (cst (.int 2))) (tcmp fNotIn (cst (.str "third")) (getM 2))) (setS 2 (lstM (argC (cst (.str "third")) (argC (cst (.str "half")) (argN))))) (nilS))
  (retS (callB fTuple (argC (getM 2) (argN))))))))
noncomputable def fl_marks : List D → FO := runF 6 l_marks'
theorem lc_half {x0 x1 x3 x4 x6 x7 : Option T} (n : Nat) (hn : n ≤ 1000) : lcLoop (put1 5) (M.ret true) (cst (.str "half")) [5] (irange 0 n) [] [x0, x1, none, x3, x4, none, x6, x7] = .ok ((List.replicate n Mk.half).map mkD) [x0, x1, none, x3, x4, none, x6, x7] := by
  have := lcLoop_map (ρ := [x0, x1, none, x3, x4, none, x6, x7]) (f := put1 5) (me := cst (.str "half")) (own := [5]) (fun _ => .str "half") (ds := irange 0 n) (fun d hd => by
    refine ⟨[x0, x1, none, x3, x4, some (.val d), x6, x7], .tmp (.val (.str "half")), [x0, x1, none, x3, x4, some (.val d), x6, x7], [x0, x1, none, x3, x4, some (.val d), x6, x7], ?_, ?_, ?_, ?_⟩
    · simp
    · simp
    · simp
    · simp) (by simp; omega)
  rw [this]
  congr 1
  unfold irange
  rw [List.map_map, List.map_replicate]
  show (List.range n).map (fun _ => (PyData.str "half")) = _
  rw [List.map_const']
  simp [mkD]
theorem marks_ok {ds : List Int} {n : Nat} (hn : 2 ≤ n) (hn2 : n ≤ 40) (hd : n + 22 ≤ ds.length) : ∃ ms : List Mk, MkOk ms [] ∧ ms.length = n ∧ (n = 2 → ms.any isThird = true) ∧ fl_marks [.int n, .list (ds.map .int)] = .ok (.val (.tuple (ms.map mkD))) := by
  obtain ⟨ms, k, y5, y6, y7, h1, h2, e⟩ := mr_loop (ds := ds) (some (.val (.int n))) n (List.replicate n .half) (List.range n) 0 none none none (by simp) (mk0 n) (by omega) (by omega)
  rw [List.length_replicate] at h2
  have hrn := fun ρ => rng_nat ρ (n := n) (by omega)
  have lh := fun x3 x4 x6 x7 => lc_half (x0 := some (.val (.int n))) (x1 := some (.val (.list (ds.map .int)))) (x3 := x3) (x4 := x4) (x6 := x6) (x7 := x7) n (by omega)
  have lr : irange 0 n = (List.range n).map iD' := by
    unfold irange
    apply List.map_congr_left
    intro i _
    show PyData.int (0 + (i : Int)) = .int (i : Int)
    rw [Int.zero_add]
  have hlr := fun ρ => lrO_nat ρ (n := n) (by omega)
  unfold mrS at e
  rw [← lr] at e
  have ni := notin_third ms
  simp only [mrC, mrM, Int.natCast_zero, List.map_nil] at e
  by_cases h2' : n = 2 ∧ ms.any isThird = false
  · obtain ⟨rfl, h3⟩ := h2'
    refine ⟨[.third, .half], ⟨fun i hi => (by cases hi), List.nodup_nil, fun i hi => (by cases hi), fun i j hj => ?_⟩, rfl, fun _ => rfl, ?_⟩
    · match i with
      | 0 => simp at hj
      | 1 => simp at hj
      | i + 2 => simp at hj
    · rw [h3] at ni
      unfold fl_marks l_marks'
      rw [run_eq]
      generalize (List.replicate 2 Mk.half).map mkD = M0 at *
      generalize ms.map mkD = M1 at *
      simp only [show ((2 : Nat) : Int) = 2 from rfl] at *
      simp [hrn, lh, hlr, e, ni, mkD]
  · refine ⟨ms, h1, h2, fun z => ?_, ?_⟩
    · cases h : ms.any isThird with
      | true => rfl
      | false => exact absurd ⟨z, h⟩ h2'
    · unfold fl_marks l_marks'
      rw [run_eq]
      generalize (List.replicate n Mk.half).map mkD = M0 at *
      by_cases h3 : n = 2
      · have h4 : ms.any isThird = true := by
          cases h : ms.any isThird with
          | true => rfl
          | false => exact absurd ⟨h3, h⟩ h2'
        rw [h4] at ni
        generalize ms.map mkD = M1 at *
        subst h3
        simp only [show ((2 : Nat) : Int) = 2 from rfl] at *
        simp [hrn, lh, hlr, e, ni]
      · have h5 : ¬ (n : Int) = 2 := by omega
        generalize ms.map mkD = M1 at *
        simp [hrn, lh, hlr, e, h5, h3]
end DL

set_option Elab.async false
set_option maxRecDepth 100000
set_option maxHeartbeats 4000000
namespace DL
open PySem L2
/-! ### fans -/
abbrev Fs (mid : List P2) : List P2 := (1, 0) :: mid
def frD (mid : List P2) : D := .tuple ((Fs mid).map fD)
def fanD (mid : List P2) (ms : List Mk) : D := .tuple [.tuple ((Fs mid).map fD), .tuple (ms.map mkD)]
structure Fan (mid : List P2) (ms : List Mk) : Prop where
  row : RowF mid
  len : ms.length = mid.length + 1
  le : mid.length ≤ 40
  marks : MkOk ms []
theorem gcd_of {x y : P2} (h : crs x y = 1) : Nat.gcd x.1.natAbs x.2.natAbs = 1 ∧ Nat.gcd y.1.natAbs y.2.natAbs = 1 := by
  unfold crs at h
  constructor
  · exact cop_of (a := x.1) (b := -y.1) (c := x.2) (d := -y.2) (by grind)
  · exact cop_of (a := y.1) (b := x.1) (c := y.2) (d := x.2) (by grind)
theorem full_at {mid : List P2} {i : Nat} {x : P2} (h : mid[i]? = some x) : (full mid)[i + 1]? = some x := by
  have hi := (List.getElem?_eq_some_iff.mp h).1
  show ((-1, 0) :: (mid ++ [(1, 0)]))[i + 1]? = _
  rw [List.getElem?_cons_succ, List.getElem?_append_left hi, h]
theorem full_zero (mid : List P2) : (full mid)[0]? = some (-1, 0) := rfl
theorem full_end (mid : List P2) : (full mid)[mid.length + 1]? = some (1, 0) := by
  show ((-1, 0) :: (mid ++ [(1, 0)]))[mid.length + 1]? = _
  rw [List.getElem?_cons_succ, List.getElem?_append_right (Nat.le_refl _), Nat.sub_self]
  rfl
theorem mid_next {mid : List P2} (h : RowF mid) {i : Nat} {x y : P2} (h1 : mid[i]? = some x) (h2 : mid[i + 1]? = some y) : crs x y = 1 :=
  h.far.at_ (full_at h1) (full_at h2)
theorem mid_first {mid : List P2} (h : RowF mid) {x : P2} (h1 : mid[0]? = some x) : x.2 = 1 := by
  have := h.far.at_ (full_zero mid) (full_at h1)
  unfold crs at this
  dsimp only at this
  omega
theorem mid_last {mid : List P2} (h : RowF mid) {i : Nat} {x : P2} (h1 : mid[i]? = some x) (hi : i + 1 = mid.length) : x.2 = 1 := by
  have e := full_end mid
  rw [← hi] at e
  have := h.far.at_ (full_at h1) e
  unfold crs at this
  dsimp only at this
  omega
theorem mid_pos {mid : List P2} (h : RowF mid) {i : Nat} {x : P2} (h1 : mid[i]? = some x) : 1 ≤ x.2 := h.pos x (List.mem_of_getElem? h1)
theorem mid_isF {mid : List P2} (h : RowF mid) {i : Nat} {x : P2} (h1 : mid[i]? = some x) : isF x.1 x.2 := by
  have hp := mid_pos h h1
  refine .inr ⟨by omega, ?_⟩
  cases i with
  | zero => exact (gcd_of (h.far.at_ (full_zero mid) (full_at h1))).2
  | succ i =>
    have hi := (List.getElem?_eq_some_iff.mp h1).1
    have e : mid[i]? = some (mid[i]'(by omega)) := List.getElem?_eq_getElem (by omega)
    exact (gcd_of (mid_next h e h1)).2
theorem Fan.bd {mid : List P2} {ms : List Mk} (h : Fan mid ms) {i : Nat} {x : P2} (h1 : (Fs mid)[i]? = some x) : x.1.natAbs < 2 ^ 60 ∧ x.2.natAbs < 2 ^ 60 := by
  cases i with
  | zero =>
    simp at h1
    subst h1
    decide
  | succ i =>
    have := h.row.bd x (List.mem_of_getElem? (List.getElem?_cons_succ ▸ h1))
    have p : 2 ^ mid.length ≤ 2 ^ 40 := Nat.pow_le_pow_right (by decide) h.le
    have q : 2 ^ 40 < 2 ^ 60 := by decide
    omega
theorem Fan.isf {mid : List P2} {ms : List Mk} (h : Fan mid ms) {i : Nat} {x : P2} (h1 : (Fs mid)[i]? = some x) : isF x.1 x.2 := by
  cases i with
  | zero =>
    simp at h1
    subst h1
    exact .inl ⟨rfl, rfl⟩
  | succ i => exact mid_isF h.row (List.getElem?_cons_succ ▸ h1)
theorem Fan.at_ {mid : List P2} {ms : List Mk} (h : Fan mid ms) {i : Nat} (hi : i ≤ mid.length) : ∃ x, (Fs mid)[i]? = some x := ⟨_, List.getElem?_eq_getElem (by simp; omega)⟩
/-- the fractions of a gap -/
theorem Fan.gap {mid : List P2} {ms : List Mk} (h : Fan mid ms) {i : Nat} (hi : i ≤ mid.length) : ∃ (x y : P2) (c : Int), (Fs mid)[i]? = some x ∧ (Fs mid)[(i + 1) % (mid.length + 1)]? = some y ∧ isF x.1 x.2 ∧ isF y.1 y.2 ∧
    x.1.natAbs < 2 ^ 60 ∧ x.2.natAbs < 2 ^ 60 ∧ y.1.natAbs < 2 ^ 60 ∧ y.2.natAbs < 2 ^ 60 ∧ x.1 * y.2 - x.2 * y.1 = c ∧ (c = 1 ∨ c = -1) := by
  have key : ∃ (x y : P2) (c : Int), (Fs mid)[i]? = some x ∧ (Fs mid)[(i + 1) % (mid.length + 1)]? = some y ∧ x.1 * y.2 - x.2 * y.1 = c ∧ (c = 1 ∨ c = -1) := by
    have hne := mid_ne h.row
    have hl : 0 < mid.length := by
      cases mid with
      | nil => exact absurd rfl hne
      | cons _ _ => simp
    obtain ⟨x, hx⟩ := h.at_ hi
    by_cases h1 : i = mid.length
    · subst h1
      rw [Nat.mod_self]
      refine ⟨x, (1, 0), _, hx, rfl, rfl, .inr ?_⟩
      obtain ⟨j, hj⟩ : ∃ j, mid.length = j + 1 := ⟨mid.length - 1, by omega⟩
      have hx' := hx
      rw [hj, List.getElem?_cons_succ] at hx'
      have := mid_last h.row hx' (by omega)
      simp [this]
    · rw [Nat.mod_eq_of_lt (by omega)]
      obtain ⟨y, hy⟩ := h.at_ (i := i + 1) (by omega)
      refine ⟨x, y, _, hx, hy, rfl, ?_⟩
      have hy' := hy
      rw [List.getElem?_cons_succ] at hy'
      cases i with
      | zero =>
        simp at hx
        subst hx
        have := mid_first h.row hy'
        left
        simp [this]
      | succ i =>
        rw [List.getElem?_cons_succ] at hx
        have := mid_next h.row hx hy'
        unfold crs at this
        right
        grind
  obtain ⟨x, y, c, hx, hy, hc, h1⟩ := key
  exact ⟨x, y, c, hx, hy, h.isf hx, h.isf hy, (h.bd hx).1, (h.bd hx).2, (h.bd hy).1, (h.bd hy).2, hc, h1⟩
theorem fr_at {l : List P2} {i : Nat} {x : P2} (h : l[i]? = some x) : atI (l.map fD) (i : Int) = some (.tuple [.int x.1, .int x.2]) :=
  at_fD (by omega) (by rw [Int.toNat_natCast]; exact h)
theorem mk_at {ms : List Mk} {i : Nat} {m : Mk} (h : ms[i]? = some m) : atI (ms.map mkD) (i : Int) = some (mkD m) := atI_n (by rw [List.getElem?_map, h]; rfl)
end DL

set_option Elab.async false
set_option maxRecDepth 100000
set_option maxHeartbeats 4000000
set_option exponentiation.threshold 5000
namespace DL
open PySem L2
/-! ### a < b < c is run -/
def chO (p p' : Int → Int → Bool) (mc : M R) (ρ : Rho) : Option D → Option D → Out R
  | some (.int i), some (.int j) => if p i j = true then (mc ρ).bnd fun rc => op2 (fCmpI p') (.tmp (.val (.int j))) rc else .ok (.tmp (.val (.bool false))) ρ
  | _, _ => .bad
@[simp] theorem chK_ap (p p' : Int → Int → Bool) (mc : M R) (ra rb : R) (ρ : Rho) : chK p p' mc ra rb ρ = chO p p' mc ρ (look ra ρ) (look rb ρ) := by
  unfold chK chO
  generalize look ra ρ = a
  generalize look rb ρ = b
  split
  · rfl
  · first
      | rfl
      | (rename_i x
         split
         · exact (x _ _ rfl rfl).elim
         · rfl)
@[simp] theorem chO_ii (p p' : Int → Int → Bool) (mc : M R) (ρ : Rho) (i j : Int) : chO p p' mc ρ (some (.int i)) (some (.int j)) = if p i j = true then (mc ρ).bnd fun rc => op2 (fCmpI p') (.tmp (.val (.int j))) rc else .ok (.tmp (.val (.bool false))) ρ := (rfl)
@[simp] theorem chM_eq (p p' : Int → Int → Bool) (ma mb mc : M R) : chM p p' ma mb mc = M.bind ma fun ra => M.bind mb fun rb => chK p p' mc ra rb := (rfl)
/-! ### the program's look -/
noncomputable def w_above : M Fl := retS (DL.bin fGt (callF ft_cross (argC (getM 0) (argC (getM 1) (argN)))) (cst (.int 0)))
noncomputable def ft_above : List D → FO := runF 0 w_above
noncomputable def w_places : M Fl := seqM (asgS (asgSeq 2 (asgCons (asgR 1) (asgCons (asgR 2) (asgNil)))) (getM 0))
  (retS (DL.bin fAdd (DL.bin fMulI (cst (.int 3)) (DL.bin fSub (callB fLen (argC (getM 1) (argN))) (cst (.int 2)))) (callB fLen (argC (lcM (put1 3) (tcmp fEq (getM 3) (cst (.str "third"))) (getM 3) [3] (itA (getM 2))) (argN)))))
noncomputable def ft_places : List D → FO := runF 3 w_places
noncomputable def w_fitsF : M Fl := seqM (setS 2 (DL.bin fIx (getM 0) (getM 1)))
  (seqM (ifS (notT (tst (callF f_isfrac (argC (getM 2) (argN))))) (retS (cst (.bool false))) (nilS))
  (seqM (ifS (tcmp fEq (getM 1) (cst (.int 0))) (retS (DL.bin fEq (getM 2) (cst (.tuple [(.int 1), (.int 0)])))) (nilS))
  (seqM (ifS (DL.orM (tcmp fEq (getM 2) (cst (.tuple [(.int 1), (.int 0)]))) (notT (tst (callF ft_near (argC (DL.bin fIx (getM 0) (DL.bin fSub (getM 1) (cst (.int 1)))) (argC (getM 2) (argN))))))) (retS (cst (.bool false))) (nilS))
  (seqM (ifS (DL.andM (tcmp fGt (getM 1) (cst (.int 1))) (notT (tst (callF ft_above (argC (getM 2) (argC (DL.bin fIx (getM 0) (DL.bin fSub (getM 1) (cst (.int 1)))) (argN))))))) (retS (cst (.bool false))) (nilS))
  (retS (vOr (DL.bin fLt (getM 1) (DL.bin fSub (callB fLen (argC (getM 0) (argN))) (cst (.int 1)))) (callF ft_near (argC (getM 2) (argC (cst (.tuple [(.int 1), (.int 0)])) (argN))))))))))
noncomputable def ft_fitsF : List D → FO := runF 1 w_fitsF
noncomputable def w_fitsM : M Fl := seqM (setS 2 (DL.bin fIx (getM 0) (getM 1)))
  (seqM (ifS (tst (isi isStr (getM 2))) (retS (DL.bin fIn (getM 2) (tupM (argC (cst (.str "half")) (argC (cst (.str "third")) (argN)))))) (nilS))
  (seqM (ifS (DL.orM (notT (tst (callF f_whole (argC (getM 2) (argN))))) (DL.orM (notT (M.bind (chM (fun i j => decide (i ≤ j)) (fun i j => decide (i < j)) (cst (.int 0)) (getM 2) (callB fLen (argC (getM 0) (argN)))) asB)) (tcmp fEq (getM 2) (getM 1)))) (retS (cst (.bool false))) (nilS))
  (retS (vAnd (callF f_whole (argC (DL.bin fIx (getM 0) (getM 2)) (argN))) (DL.bin fEq (DL.bin fIx (getM 0) (getM 2)) (getM 1))))))
noncomputable def ft_fitsM : List D → FO := runF 1 w_fitsM
noncomputable def w_lookF : M Fl := seqM (ifS (notT (M.bind (chM (fun i j => decide (i ≤ j)) (fun i j => decide (i ≤ j)) (cst (.int 2)) (callB fLen (argC (getM 0) (argN))) (cst (.int 22))) asB)) (badS) (nilS))
  (seqM (forS (asgR 1) (itR1 (argC (callB fLen (argC (getM 0) (argN))) (argN))) (ifS (notT (tst (callF ft_fitsF (argC (getM 0) (argC (getM 1) (argN)))))) (badS) (nilS)))
  (ifS (tcmp fNotIn (cst (.tuple [(.int 0), (.int 1)])) (getM 0)) (badS) (nilS)))
noncomputable def ft_lookF : List D → FO := runF 1 w_lookF
noncomputable def w_look : M Fl := seqM (ifS (DL.orM (notT (tst (isi isTup (getM 0)))) (DL.orM (tcmp fNe (callB fLen (argC (getM 0) (argN))) (cst (.int 2))) (notT (tst (callB fAll (argC (lcM (put1 4) (M.ret true) (isi isTup (getM 4)) [4] (itA (getM 0))) (argN))))))) (badS) (nilS))
  (seqM (asgS (asgSeq 2 (asgCons (asgR 2) (asgCons (asgR 3) (asgNil)))) (getM 0))
  (seqM (exS (callF ft_lookF (argC (getM 2) (argN))))
  (seqM (ifS (tcmp fNe (callB fLen (argC (getM 3) (argN))) (callB fLen (argC (getM 2) (argN)))) (badS) (nilS))
  (seqM (forS (asgR 1) (itR1 (argC (callB fLen (argC (getM 3) (argN))) (argN))) (ifS (notT (tst (callF ft_fitsM (argC (getM 3) (argC (getM 1) (argN)))))) (badS) (nilS)))
  (ifS (notT (M.bind (chM (fun i j => decide (i ≤ j)) (fun i j => decide (i ≤ j)) (cst (.int 1)) (callF ft_places (argC (getM 0) (argN))) (cst (.int 60))) asB)) (badS) (nilS))))))
noncomputable def ft_look : List D → FO := runF 4 w_look
noncomputable def w_gapE : M Fl := seqM (setS 2 (DL.bin fIx (getM 0) (cst (.int 0))))
  (retS (tupM (argC (DL.bin fIx (getM 2) (getM 1)) (argC (DL.bin fIx (getM 2) (DL.bin fMod (DL.bin fAdd (getM 1) (cst (.int 1))) (callB fLen (argC (getM 2) (argN))))) (argN)))))
noncomputable def ft_gapE : List D → FO := runF 1 w_gapE
noncomputable def w_gapT : M Fl := seqM (asgS (asgSeq 2 (asgCons (asgR 2) (asgCons (asgR 3) (asgNil)))) (callF ft_gapE (argC (getM 0) (argC (getM 1) (argN)))))
  (retS (callF ft_between (argC (getM 2) (argC (getM 3) (argN)))))
noncomputable def ft_gapT : List D → FO := runF 2 w_gapT
noncomputable def wl_fan : M Fl := seqM (setS 1 (DL.bin fAdd (cst (.int 2)) (DL.bin fMod (getM 0) (cst (.int 6)))))
  (seqM (ifS (tcmp fEq (DL.bin fMod (DL.bin fDiv (getM 0) (cst (.int 6))) (cst (.int 8))) (cst (.int 1))) (setS 1 (DL.bin fAdd (cst (.int 2)) (DL.bin fMod (DL.bin fDiv (getM 0) (cst (.int 48))) (cst (.int 15))))) (nilS))
  (seqM (setS 2 (callF f_row (argC (DL.bin fDiv (getM 0) (cst (.int 720))) (argC (cst (.int 24)) (argC (cst (.int 66)) (argN))))))
  (retS (tupM (argC (callF fl_fracs (argC (getM 1) (argC (slM (getM 2) (M.ret none) (M.bind (cst (.int 22)) asInt)) (argN)))) (argC (callF fl_marks (argC (getM 1) (argC (slM (getM 2) (M.bind (cst (.int 22)) asInt) (M.ret none)) (argN)))) (argN)))))))
noncomputable def fl_fan : List D → FO := runF 2 wl_fan
noncomputable def wl_gap : M Fl := seqM (setS 2 (DL.bin fIx (getM 0) (cst (.int 0))))
  (seqM (asgS (asgSeq 2 (asgCons (asgR 4) (asgCons (asgR 5) (asgNil)))) (DL.bin fIx (getM 2) (getM 1)))
  (seqM (asgS (asgSeq 2 (asgCons (asgR 6) (asgCons (asgR 7) (asgNil)))) (DL.bin fIx (getM 2) (DL.bin fMod (DL.bin fAdd (getM 1) (cst (.int 1))) (callB fLen (argC (getM 2) (argN))))))
  (seqM (setS 3 (DL.bin fSub (DL.bin fMulI (getM 4) (getM 7)) (DL.bin fMulI (getM 5) (getM 6))))
  (retS (callF f_times (argC (tupM (argC (cst (.int 1)) (argC (cst (.int 0)) (argC (cst (.int 0)) (argC (cst (.int 1)) (argN)))))) (argC (tupM (argC (getM 4) (argC (DL.bin fMulI (getM 3) (getM 6)) (argC (getM 5) (argC (DL.bin fMulI (getM 3) (getM 7)) (argN)))))) (argN))))))))
noncomputable def fl_gap : List D → FO := runF 6 wl_gap
theorem tabove_ok {p q s t : Int} {k : Nat} (hp : p.natAbs < 2 ^ k) (hq : q.natAbs < 2 ^ k) (hs : s.natAbs < 2 ^ k) (ht : t.natAbs < 2 ^ k) (hk : k < 400000) : ft_above [pD p q, pD s t] = .ok (.val (.bool (decide (p * t - q * s > 0)))) := by
  have e := cross_ok hp hq hs ht hk
  unfold ft_above w_above
  rw [run_eq]
  simp [e]
theorem fitsF_run {row : List D} {k : Int} {a b c d : Int} (k0 : ¬ k = 0) (ax : atI row (k - 1) = some (.tuple [.int a, .int b])) (ay : atI row k = some (.tuple [.int c, .int d])) (F : f_isfrac [.tuple [.int c, .int d]] = .ok (.val (.bool true))) (ne : ¬ (c = 1 ∧ d = 0))
    (n1 : ft_near [.tuple [.int a, .int b], .tuple [.int c, .int d]] = .ok (.val (.bool true))) (ab : 1 < k → ft_above [.tuple [.int c, .int d], .tuple [.int a, .int b]] = .ok (.val (.bool true)))
    (la : ¬ k < (row.length : Int) - 1 → ft_near [.tuple [.int c, .int d], .tuple [.int 1, .int 0]] = .ok (.val (.bool true))) : ft_fitsF [.tuple row, .int k] = .ok (.val (.bool true)) := by
  unfold ft_fitsF w_fitsF
  rw [run_eq]
  by_cases h1 : 1 < k
  · by_cases h2 : k < (row.length : Int) - 1
    · simp [k0, ax, ay, F, ne, n1, ab h1, h1, h2]
    · simp [k0, ax, ay, F, ne, n1, ab h1, h1, h2, la h2]
  · by_cases h2 : k < (row.length : Int) - 1
    · simp [k0, ax, ay, F, ne, n1, h1, h2]
    · simp [k0, ax, ay, F, ne, n1, h1, h2, la h2]
theorem fitsF_ok {mid : List P2} {ms : List Mk} (h : Fan mid ms) {i : Nat} (hi : i ≤ mid.length) : ft_fitsF [.tuple ((Fs mid).map fD), .int i] = .ok (.val (.bool true)) := by
  have hl : ((Fs mid).map fD).length = mid.length + 1 := by simp
  obtain ⟨y, hy⟩ := h.at_ hi
  have ay := fr_at hy
  have Fy := isfrac_t (h.isf hy)
  cases i with
  | zero =>
    simp at hy
    subst hy
    unfold ft_fitsF w_fitsF
    rw [run_eq]
    simp only [Int.natCast_zero] at ay ⊢
    generalize (Fs mid).map fD = row at *
    simp [ay, Fy]
  | succ i =>
    obtain ⟨x, hx⟩ := h.at_ (i := i) (by omega)
    have ax := fr_at hx
    have bx := h.bd hx
    have b_y := h.bd hy
    have hy' : mid[i]? = some y := by rwa [List.getElem?_cons_succ] at hy
    have y2 := mid_pos h.row hy'
    have nr : (x.1 * y.2 - x.2 * y.1).natAbs = 1 ∧ (1 ≤ i → y.1 * x.2 - y.2 * x.1 > 0) := by
      cases i with
      | zero =>
        simp at hx
        subst hx
        have := mid_first h.row hy'
        simp [this]
      | succ i =>
        have hx' : mid[i]? = some x := by rwa [List.getElem?_cons_succ] at hx
        have := mid_next h.row hx' hy'
        unfold crs at this
        have e1 : x.1 * y.2 - x.2 * y.1 = -(y.1 * x.2 - x.1 * y.2) := by grind
        have e2 : y.1 * x.2 - y.2 * x.1 = y.1 * x.2 - x.1 * y.2 := by grind
        rw [e1, e2, this]
        exact ⟨rfl, fun _ => by decide⟩
    have n1 := near_ok bx.1 bx.2 b_y.1 b_y.2 (by decide)
    have n2 := near_ok b_y.1 b_y.2 (s := 1) (t := 0) (by decide) (by decide) (by decide)
    have n3 := tabove_ok b_y.1 b_y.2 bx.1 bx.2 (by decide)
    simp only [pD] at n1 n2 n3
    refine fitsF_run (row := (Fs mid).map fD) (k := ((i + 1 : Nat) : Int)) (a := x.1) (b := x.2) (c := y.1) (d := y.2) (by omega) (by rw [show ((i + 1 : Nat) : Int) - 1 = (i : Int) by omega]; exact ax) ay Fy (by omega) ?_ (fun hk => ?_) (fun hk => ?_)
    · rw [n1, decide_eq_true (by omega)]
    · rw [n3, decide_eq_true (nr.2 (by omega))]
    · rw [hl] at hk
      have := mid_last h.row hy' (by omega)
      rw [n2, this]
      simp
theorem in_half : fIn (.str "half") (.tuple [.str "half", .str "third"]) = some (.val (.bool true)) := by
  have e : ([PyData.str "half", PyData.str "third"].any fun z => PyData.eqv z (.str "half")) = true := by decide +kernel
  show (inL (.str "half") [.str "half", .str "third"]).map _ = _
  unfold inL
  rw [e]
  rfl
theorem in_third : fIn (.str "third") (.tuple [.str "half", .str "third"]) = some (.val (.bool true)) := by
  have e : ([PyData.str "half", PyData.str "third"].any fun z => PyData.eqv z (.str "third")) = true := by decide +kernel
  show (inL (.str "third") [.str "half", .str "third"]).map _ = _
  unfold inL
  rw [e]
  rfl
theorem fitsM_ok {ms : List Mk} (h : MkOk ms []) {i : Nat} (hi : i < ms.length) : ft_fitsM [.tuple (ms.map mkD), .int i] = .ok (.val (.bool true)) := by
  have hm : ms[i]? = some ms[i] := List.getElem?_eq_getElem hi
  generalize ms[i] = m at hm
  have am := mk_at hm
  have hl : (ms.map mkD).length = ms.length := by simp
  unfold ft_fitsM w_fitsM
  rw [run_eq]
  cases m with
  | half =>
    simp only [mkD] at am
    generalize ms.map mkD = row at *
    simp [am, isStr, in_half]
  | third =>
    simp only [mkD] at am
    generalize ms.map mkD = row at *
    simp [am, isStr, in_third]
  | pair j =>
    obtain ⟨n1, n2, _, _⟩ := h.fit i j hm
    have aj := mk_at n2
    have hj := (List.getElem?_eq_some_iff.mp n2).1
    simp only [mkD] at am aj
    have n3 : ¬ (j : Int) = (i : Int) := by omega
    have n5 : (j : Int) < ((ms.map mkD).length : Int) := by rw [hl]; omega
    generalize ms.map mkD = row at *
    have wj := whole_ok (.int (j : Int))
    have wi := whole_ok (.int (i : Int))
    have e1 : whole (.int (j : Int)) = true := rfl
    have e2 : whole (.int (i : Int)) = true := rfl
    rw [e1] at wj
    rw [e2] at wi
    simp [am, aj, isStr, wj, wi, n1, n3, n5]
end DL

set_option Elab.async false
set_option maxRecDepth 100000
set_option maxHeartbeats 4000000
set_option exponentiation.threshold 5000
namespace DL
open PySem L2
theorem lay_prs : ∀ l : List P2, PyData.canLayAll0 (l.map fD) = true ∧ PyData.depthAll (l.map fD) ≤ 1
  | [] => ⟨by simp [PyData.canLayAll0], by simp [PyData.depthAll]⟩
  | c :: l => by
    obtain ⟨h1, h2⟩ := lay_prs l
    simp only [List.map_cons, PyData.canLayAll0, PyData.depthAll, fD, PyData.canLay0, PyData.depth, Bool.true_and]
    exact ⟨h1, by simp; omega⟩
theorem notin_nought {l : List P2} (h : (0, 1) ∈ l) : fNotIn (.tuple [.int 0, .int 1]) (.tuple (l.map fD)) = some (.val (.bool false)) := by
  obtain ⟨h1, h2⟩ := lay_prs l
  have s1 : SeqAt.shaped (.list (l.map fD)) = true := by
    unfold SeqAt.shaped
    simp only [PyData.canLay0, PyData.depth, h1]
    simp
    omega
  have s2 : SeqAt.shaped (.tuple [.int 0, .int 1]) = true := by decide
  have e : inD (.tuple [.int 0, .int 1]) (.tuple (l.map fD)) = some true := by
    have ea : ((l.map fD).any fun z => PyData.eqv z (.tuple [.int 0, .int 1])) = true := List.any_eq_true.mpr ⟨fD (0, 1), List.mem_map.mpr ⟨_, h, rfl⟩, rfl⟩
    show inL _ _ = _
    unfold inL
    rw [ea]
    split
    · rfl
    · rw [if_pos (by rw [s1, s2]; rfl)]
  unfold fNotIn
  rw [e]
  rfl
noncomputable def lkB : M Fl := ifS (notT (tst (callF ft_fitsF (argC (getM 0) (argC (getM 1) (argN)))))) (badS) (nilS)
theorem lookF_ok {mid : List P2} {ms : List Mk} (h : Fan mid ms) (hm : mid.length ≤ 21) : ft_lookF [.tuple ((Fs mid).map fD)] = .ok (.val .none) := by
  have hl : ((Fs mid).map fD).length = mid.length + 1 := by simp
  have hne := mid_ne h.row
  have hl0 : 0 < mid.length := by
    cases mid with
    | nil => exact absurd rfl hne
    | cons _ _ => simp
  have nn := notin_nought (l := Fs mid) (List.mem_cons_of_mem _ h.row.zero)
  have loop : ∀ (m k : Nat) (x1 : Option T), k + m ≤ mid.length + 1 → ∃ y1, forM (asgR 1) lkB (irange (k : Int) m) [some (.val (.tuple ((Fs mid).map fD))), x1] = .ok .nx [some (.val (.tuple ((Fs mid).map fD))), y1] := by
    intro m
    induction m with
    | zero => exact fun k x1 h2 => ⟨x1, rfl⟩
    | succ m ih =>
      intro k x1 h2
      obtain ⟨y1, e⟩ := ih (k + 1) (some (.val (.int k))) (by omega)
      refine ⟨y1, ?_⟩
      have ff := fitsF_ok h (i := k) (by omega)
      rw [irange_cons, forM_cons, bind_ap]
      generalize (Fs mid).map fD = row at *
      have ep : asgR 1 (.tmp (.val (.int k))) [some (.val (.tuple row)), x1] = .ok () [some (.val (.tuple row)), some (.val (.int k))] := by simp
      have eb : lkB [some (.val (.tuple row)), some (.val (.int k))] = .ok .nx [some (.val (.tuple row)), some (.val (.int k))] := by
        unfold lkB
        simp [ff]
      rw [ep, bnd_ok, eb, bnd_ok, loop_nx]
      exact e
  obtain ⟨y1, e⟩ := loop (mid.length + 1) 0 none (by omega)
  have hrn := fun ρ => rng_nat ρ (n := mid.length + 1) (by omega)
  unfold ft_lookF w_lookF
  rw [run_eq]
  rw [← hl] at hrn e
  have g1 : (2 : Int) ≤ (((Fs mid).map fD).length : Int) := by rw [hl]; omega
  have g2 : (((Fs mid).map fD).length : Int) ≤ 22 := by rw [hl]; omega
  generalize (Fs mid).map fD = row at *
  simp only [lkB, Int.natCast_zero] at e
  simp [g1, g2, hrn, e, nn]
/-- how many marks are third -/
def thirds (ms : List Mk) : Nat := (ms.filter isThird).length
theorem fEq_third (m : Mk) : fEq (mkD m) (.str "third") = some (.val (.bool (isThird m))) := by
  cases m with
  | half =>
    show some (T.val (.bool (decide (("half" : Str) = "third")))) = _
    rw [decide_eq_false (by decide +kernel)]
    rfl
  | third =>
    show some (T.val (.bool (decide (("third" : Str) = "third")))) = _
    rw [decide_eq_true rfl]
    rfl
  | pair j => rfl
theorem lc_third {x0 x1 x2 : Option T} (ms : List Mk) (hl : ms.length ≤ 1000) : lcLoop (put1 3) (tcmp fEq (getM 3) (cst (.str "third"))) (getM 3) [3] (ms.map mkD) [] [x0, x1, x2, none] = .ok ((ms.filter isThird).map mkD) [x0, x1, x2, none] := by
  rw [lcLoop_fm (fun d => if PyData.eqv d (.str "third") = true then some d else none) (ms.map mkD) [] (fun d hd => by
    obtain ⟨m, _, rfl⟩ := List.mem_map.mp hd
    have e := fEq_third m
    have e2 := eqv_third m
    cases hm : isThird m with
    | true =>
      rw [hm] at e e2
      rw [e2]
      generalize mkD m = d at *
      exact ⟨[x0, x1, x2, some (.val d)], [x0, x1, x2, some (.val d)], .slot 3, [x0, x1, x2, some (.val d)], [x0, x1, x2, some (.val d)], by simp, by simp [e], by simp, by simp, by simp⟩
    | false =>
      rw [hm] at e e2
      rw [e2]
      generalize mkD m = d at *
      exact ⟨[x0, x1, x2, some (.val d)], [x0, x1, x2, some (.val d)], by simp, by simp [e], by simp⟩) (by simp; omega)]
  congr 1
  rw [List.nil_append, List.filterMap_map]
  clear hl
  induction ms with
  | nil => rfl
  | cons m ms ih =>
    rw [List.filterMap_cons, List.filter_cons]
    have e2 := eqv_third m
    simp only [Function.comp_apply, e2]
    cases hm : isThird m with
    | true =>
      simp only [if_true, List.map_cons]
      rw [← ih]
    | false =>
      simp only [Bool.false_eq_true, if_false]
      rw [← ih]
theorem places_ok {mid : List P2} {ms : List Mk} (hm : mid.length ≤ 40) (hl : ms.length ≤ 1000) : ft_places [fanD mid ms] = .ok (.val (.int (3 * ((mid.length : Int) + 1 - 2) + (thirds ms : Int)))) := by
  have l1 : ((Fs mid).map fD).length = mid.length + 1 := by simp
  have lc := fun x0 x1 x2 => lc_third (x0 := x0) (x1 := x1) (x2 := x2) ms hl
  have b : bMul 3 ((mid.length : Int) + 1 - 2) = true := bMul_of 2 10 (by decide) (by omega) (by decide)
  have l2 : ((ms.filter isThird).map mkD).length = thirds ms := by simp [thirds]
  unfold ft_places w_places fanD
  rw [run_eq]
  generalize (ms.filter isThird).map mkD = r3 at *
  generalize ms.map mkD = r2 at *
  generalize (Fs mid).map fD = row at *
  simp [l1, lc, b, l2]
noncomputable def lkM : M Fl := ifS (notT (tst (callF ft_fitsM (argC (getM 3) (argC (getM 1) (argN)))))) (badS) (nilS)
/-- a fan looked at -/
theorem look_ok {mid : List P2} {ms : List Mk} (h : Fan mid ms) (hm : mid.length ≤ 21) (p1 : 1 ≤ 3 * ((mid.length : Int) + 1 - 2) + (thirds ms : Int)) (p2 : 3 * ((mid.length : Int) + 1 - 2) + (thirds ms : Int) ≤ 60) : ft_look [fanD mid ms] = .ok (.val .none) := by
  have lf := lookF_ok h hm
  have pl := places_ok (mid := mid) (ms := ms) (by omega) (by have := h.len; omega)
  have l1 : ((Fs mid).map fD).length = mid.length + 1 := by simp
  have l2 : (ms.map mkD).length = mid.length + 1 := by rw [List.length_map, h.len]
  have ft := fun (i : Nat) (hi : i < ms.length) => fitsM_ok h.marks hi
  have hlen := h.len
  generalize 3 * ((mid.length : Int) + 1 - 2) + (thirds ms : Int) = P at *
  have loop : ∀ (m k : Nat) (x0 x1 x2 x4 : Option T), k + m ≤ ms.length → ∃ y1, forM (asgR 1) lkM (irange (k : Int) m) [x0, x1, x2, some (.val (.tuple (ms.map mkD))), x4] = .ok .nx [x0, y1, x2, some (.val (.tuple (ms.map mkD))), x4] := by
    intro m
    induction m with
    | zero => exact fun k x0 x1 x2 x4 h2 => ⟨x1, rfl⟩
    | succ m ih =>
      intro k x0 x1 x2 x4 h2
      obtain ⟨y1, e⟩ := ih (k + 1) x0 (some (.val (.int k))) x2 x4 (by omega)
      refine ⟨y1, ?_⟩
      have ff := ft k (by omega)
      rw [irange_cons, forM_cons, bind_ap]
      generalize ms.map mkD = row at *
      have ep : asgR 1 (.tmp (.val (.int k))) [x0, x1, x2, some (.val (.tuple row)), x4] = .ok () [x0, some (.val (.int k)), x2, some (.val (.tuple row)), x4] := by simp
      have eb : lkM [x0, some (.val (.int k)), x2, some (.val (.tuple row)), x4] = .ok .nx [x0, some (.val (.int k)), x2, some (.val (.tuple row)), x4] := by
        unfold lkM
        simp [ff]
      rw [ep, bnd_ok, eb, bnd_ok, loop_nx]
      exact e
  obtain ⟨y1, e⟩ := loop (mid.length + 1) 0 (some (.val (fanD mid ms))) none (some (.val (.tuple ((Fs mid).map fD)))) none (by omega)
  have hrn := fun ρ => rng_nat ρ (n := mid.length + 1) (by omega)
  have cast : ((mid.length + 1 : Nat) : Int) = (mid.length : Int) + 1 := by omega
  unfold ft_look w_look
  rw [run_eq]
  simp only [lkM, Int.natCast_zero, fanD] at e
  unfold fanD at pl ⊢
  generalize ms.map mkD = r2 at *
  generalize (Fs mid).map fD = row at *
  have lc : ∀ ρ : Rho, ρ[4]? = some none → lcLoop (put1 4) (M.ret true) (isi isTup (getM 4)) [4] [.tuple row, .tuple r2] [] ρ = .ok [.bool true, .bool true] ρ := fun ρ hρ => by
    have hlt := (List.getElem?_eq_some_iff.mp hρ).1
    exact lcLoop_map (ρ := ρ) (f := put1 4) (me := isi isTup (getM 4)) (own := [4]) (fun d => .bool (isTup d)) (ds := [.tuple row, .tuple r2]) (fun d hd => ⟨ρ.set 4 (some (.val d)), .tmp (.val (.bool (isTup d))), ρ.set 4 (some (.val d)), ρ.set 4 (some (.val d)), by simp [hρ], by simp [hlt], by simp, by simp [set_back hρ]⟩) (by simp)
  have lc' := lc [some (.val (.tuple [.tuple row, .tuple r2])), none, none, none, none] rfl
  rw [cast] at hrn
  simp [lc', isTup, lf, l1, l2, hrn, e, pl, p1, p2]
end DL

set_option Elab.async false
set_option maxRecDepth 100000
set_option maxHeartbeats 4000000
set_option exponentiation.threshold 5000
namespace DL
open PySem L2
/-- the turning of a gap -/
structure IsGap (mid : List P2) (i : Nat) (m : M4) (x y : P2) (e : Int) : Prop where
  fst : (Fs mid)[i]? = some x
  snd : (Fs mid)[(i + 1) % (mid.length + 1)]? = some y
  eq : m = ⟨x.1, e * y.1, x.2, e * y.2⟩
  one : e = 1 ∨ e = -1
  cross : x.1 * y.2 - x.2 * y.1 = e
  f1 : isF x.1 x.2
  f2 : isF y.1 y.2
  bx : x.1.natAbs < 2 ^ 60 ∧ x.2.natAbs < 2 ^ 60
  b_y : y.1.natAbs < 2 ^ 60 ∧ y.2.natAbs < 2 ^ 60
  det : m.det = 1
  up : ¬ m.down
  lt : m.lt 60
theorem Fan.isGap {mid : List P2} {ms : List Mk} (h : Fan mid ms) {i : Nat} (hi : i ≤ mid.length) : ∃ m x y e, IsGap mid i m x y e := by
  obtain ⟨x, y, c, hx, hy, F1, F2, b1, b2, b3, b4, hc, c1⟩ := h.gap hi
  have be : ∀ {z : Int}, z.natAbs < 2 ^ 60 → (c * z).natAbs < 2 ^ 60 := fun {z} h => by
    rw [Int.natAbs_mul]
    have : c.natAbs = 1 := by omega
    rw [this, Nat.one_mul]
    exact h
  refine ⟨_, x, y, c, hx, hy, rfl, c1, hc, F1, F2, ⟨b1, b2⟩, ⟨b3, b4⟩, ?_, ?_, ⟨b1, be b3, b2, be b4⟩⟩
  · unfold M4.det
    dsimp only
    have : x.1 * (c * y.2) - c * y.1 * x.2 = c * (x.1 * y.2 - x.2 * y.1) := by grind
    rw [this, hc]
    rcases c1 with rfl | rfl <;> rfl
  · unfold M4.down
    dsimp only
    rcases F1 with ⟨q0, p1⟩ | ⟨q0, _⟩
    · rw [q0, p1] at hc
      have e1 : c = y.2 := by omega
      rcases F2 with ⟨z, _⟩ | ⟨z, _⟩
      · omega
      · have : c = 1 := by omega
        rw [q0, this]
        omega
    · omega
theorem IsGap.at1 {mid : List P2} {i : Nat} {m : M4} {x y : P2} {e : Int} (g : IsGap mid i m x y e) : atI ((Fs mid).map fD) (((i : Int) + 1).fmod ((mid.length : Int) + 1)) = some (.tuple [.int y.1, .int y.2]) := by
  rw [Int.fmod_eq_emod_of_nonneg _ (by omega)]
  have := fr_at g.snd
  rw [Int.natCast_emod] at this
  exact this
theorem gapE_ok {mid : List P2} {ms : List Mk} {i : Nat} {m : M4} {x y : P2} {e : Int} (g : IsGap mid i m x y e) : ft_gapE [fanD mid ms, .int i] = .ok (.val (.tuple [.tuple [.int x.1, .int x.2], .tuple [.int y.1, .int y.2]])) := by
  have ax := fr_at g.fst
  have ay := g.at1
  have l1 : ((Fs mid).map fD).length = mid.length + 1 := by simp
  have nz : ¬ (mid.length : Int) + 1 = 0 := by omega
  unfold ft_gapE w_gapE fanD
  rw [run_eq]
  generalize (Fs mid).map fD = row at *
  simp [ax, l1, nz, ay]
theorem gapT_ok {mid : List P2} {ms : List Mk} {i : Nat} {m : M4} {x y : P2} {e : Int} (g : IsGap mid i m x y e) : ft_gapT [fanD mid ms, .int i] = .ok (.val m.D) := by
  have ge := gapE_ok (ms := ms) g
  have tb := between_ok g.bx.1 g.bx.2 g.b_y.1 g.b_y.2 (by decide) g.cross g.one
  rw [← g.eq, M4.nrm_id g.up] at tb
  simp only [pD] at tb
  unfold ft_gapT w_gapT
  rw [run_eq]
  simp [ge, tb]
theorem gapEdge_ok {mid : List P2} {i : Nat} {m : M4} {x y : P2} {e : Int} (g : IsGap mid i m x y e) : ft_edge [m.D] = .ok (.val (.tuple [.tuple [.int x.1, .int x.2], .tuple [.int y.1, .int y.2]])) ∧ fl_led [m.D, pD 1 0] = .ok (.val (pD x.1 x.2)) ∧ fl_led [m.D, pD 0 1] = .ok (.val (pD y.1 y.2)) := by
  obtain ⟨e', he, G1, G2, ed, l1, l2⟩ := edge_ok g.lt (by decide) g.det g.up
  have e1 := g.eq
  obtain ⟨a, b, c, d⟩ := m
  cases e1
  dsimp only at G1 G2 ed l1 l2
  have un := isF_unique g.f2 G2 (by
    have a1 : y.1 * (e' * (e * y.2)) = e' * e * (y.1 * y.2) := by grind
    have a2 : y.2 * (e' * (e * y.1)) = e' * e * (y.1 * y.2) := by grind
    rw [a1, a2])
  rw [← un.1, ← un.2] at ed l2
  exact ⟨ed, l1, l2⟩
theorem one_tm (m : M4) : M4.one.tm m = m.nrm := by
  unfold M4.tm M4.one M4.mul
  simp
theorem lgap_ok {mid : List P2} {ms : List Mk} {i : Nat} {m : M4} {x y : P2} {e : Int} (g : IsGap mid i m x y e) : fl_gap [fanD mid ms, .int i] = .ok (.val m.D) := by
  have ax := fr_at g.fst
  have ay := g.at1
  have l1 : ((Fs mid).map fD).length = mid.length + 1 := by simp
  have nz : ¬ (mid.length : Int) + 1 = 0 := by omega
  have t := times_ok one_lt g.lt (by decide)
  rw [one_tm, M4.nrm_id g.up, g.eq] at t
  rw [g.eq]
  simp only [M4.D, M4.one] at t ⊢
  have m1 : bMul x.1 y.2 = true := bMul_of 60 60 g.bx.1 g.b_y.2 (by decide)
  have m2 : bMul x.2 y.1 = true := bMul_of 60 60 g.bx.2 g.b_y.1 (by decide)
  have e2 : e.natAbs < 2 ^ 2 := by rcases g.one with z | z <;> rw [z] <;> decide
  have m3 : bMul e y.1 = true := bMul_of 2 60 e2 g.b_y.1 (by decide)
  have m4 : bMul e y.2 = true := bMul_of 2 60 e2 g.b_y.2 (by decide)
  have cr := g.cross
  unfold fl_gap wl_gap fanD
  rw [run_eq]
  generalize (Fs mid).map fD = row at *
  simp [ax, l1, nz, ay, m1, m2, m3, m4, cr, t]
/-- fans drawn -/
theorem fan_of {c : Int} {n : Nat} (h2 : 2 ≤ n) (h22 : n ≤ 22) {r : List Int} (hr : r.length = 66) : ∃ mid ms, Fan mid ms ∧ mid.length + 1 = n ∧ (n = 2 → ms.any isThird = true) ∧
    fl_fracs [.int n, .list ((r.take 22).map .int)] = .ok (.val (.tuple ((Fs mid).map fD))) ∧ fl_marks [.int n, .list ((r.drop 22).map .int)] = .ok (.val (.tuple (ms.map mkD))) := by
  obtain ⟨mid, R, hl, ef⟩ := fracs_ok (ds := r.take 22) (n := n) h2 (by omega) (by simp; omega)
  obtain ⟨ms, M, ml, ht, em⟩ := marks_ok (ds := r.drop 22) (n := n) h2 (by omega) (by simp; omega)
  exact ⟨mid, ms, ⟨R, by omega, by omega, M⟩, hl, ht, ef, em⟩
theorem fan_ok (c : Int) : ∃ mid ms, Fan mid ms ∧ mid.length ≤ 15 ∧ (mid.length = 1 → ms.any isThird = true) ∧ fl_fan [.int c] = .ok (.val (fanD mid ms)) := by
  obtain ⟨r, h1, _, h3⟩ := row_ok (c := c.fdiv 720) (b := 24) (n := 66) (by decide) ⟨by decide, by decide⟩ (by decide)
  have h3' : f_row [.int (c.fdiv 720), .int 24, .int 66] = .ok (.lst none (r.map .int)) := h3
  have s1 : fSl (.list (r.map .int)) none (some 22) = some (.lst none ((r.take 22).map .int)) := by
    rw [fSl_l, List.length_map, h1, List.map_take]
    rfl
  have s2 : fSl (.list (r.map .int)) (some 22) none = some (.lst none ((r.drop 22).map .int)) := by
    rw [fSl_l, List.length_map, h1, List.map_drop]
    show some (T.lst none (((r.map PyData.int).drop 22).take 44)) = _
    rw [List.take_of_length_le (by simp; omega)]
  have g6 := fmod_pos (a := c) (b := 6) (by decide)
  have g15 := fmod_pos (a := c.fdiv 48) (b := 15) (by decide)
  have key : ∃ n : Nat, 2 ≤ n ∧ n ≤ 16 ∧ (n : Int) = if (c.fdiv 6).fmod 8 = 1 then 2 + (c.fdiv 48).fmod 15 else 2 + c.fmod 6 := by
    split
    · exact ⟨(2 + (c.fdiv 48).fmod 15).toNat, by omega, by omega, by omega⟩
    · exact ⟨(2 + c.fmod 6).toNat, by omega, by omega, by omega⟩
  obtain ⟨n, n2, n16, hn⟩ := key
  obtain ⟨mid, ms, F, hl, ht, ef, em⟩ := fan_of (c := c) n2 (by omega) h1
  refine ⟨mid, ms, F, by omega, fun z => ht (by omega), ?_⟩
  unfold fl_fan wl_fan fanD
  rw [run_eq]
  generalize (r.take 22).map PyData.int = r1 at *
  generalize (r.drop 22).map PyData.int = r2 at *
  generalize r.map PyData.int = r0 at *
  generalize ms.map mkD = row2 at *
  generalize (Fs mid).map fD = row at *
  by_cases w : (c.fdiv 6).fmod 8 = 1
  · rw [if_pos w] at hn
    rw [hn] at ef em
    simp [-fSl_l, w, h3', s1, s2, ef, em]
  · rw [if_neg w] at hn
    rw [hn] at ef em
    simp [-fSl_l, w, h3', s1, s2, ef, em]
/-- max(1, min(a, L)) -/
theorem min_max (a : Int) (ha : 1 ≤ a) (L : Nat) : ∃ n : Nat, (n : Int) ≤ a ∧ 1 ≤ n ∧ fMin2 [.int a, .int L] = some (.val (.int (if (L : Int) < a then (L : Int) else a))) ∧ fMax2 [.int 1, .int (if (L : Int) < a then (L : Int) else a)] = some (.val (.int n)) := by
  refine ⟨(if (if (L : Int) < a then (L : Int) else a) > 1 then (if (L : Int) < a then (L : Int) else a) else 1).toNat, ?_, ?_, rfl, ?_⟩
  · repeat' split
    all_goals omega
  · repeat' split
    all_goals omega
  · show some (T.val (.int (if (if (L : Int) < a then (L : Int) else a) > 1 then (if (L : Int) < a then (L : Int) else a) else 1))) = _
    congr 3
    repeat' split
    all_goals omega
end DL

set_option Elab.async false
set_option maxRecDepth 100000
set_option maxHeartbeats 4000000
namespace DL
open PySem PySem.Spec PyProof.Rows L2
/-! ### enumerate(v), v a list or a tuple -/
section
open Sem (wp)
set_option maxHeartbeats 1000000 in
theorem meets_enum1B {v : Value} {o : Obj} {H : Heap → Prop} (B : Begins v o H) :
    Meets (Builtin.«enumerate.__new__» ⟨[.type "enumerate", v], []⟩) (fun _ R s => H s.heap ∧
      R (.ok (.ret (.ref (s.heap.push o).objs.size))) { s with heap := (s.heap.push o).push { cls := .type "enumerate", data := .fields #[.none, .bool false, .ref s.heap.objs.size, rawInt 0, .none, .none] } }) :=
  .of_wp fun prog w A R s h => by
    obtain ⟨hp, g, d, tk, os⟩ := s; obtain ⟨h1, h⟩ := h
    have hsub := sub_enumerate
    have q1 : ∀ {A' : Around} {E : Value → Shared → Prop} {Q : Value → Shared → Prop}, Q (.ref hp.objs.size) ⟨hp.push o, g, d, tk, os⟩ → wpAny (model prog w) A' (pyIter v) Q E ⟨hp, g, d, tk, os⟩ :=
      fun q => B.iter prog w _ _ ⟨hp, g, d, tk, os⟩ _ h1 q
    wp_walk using q1
    refine wpAny_stack_any fun st => wpAny_pure ?_
    split
    · rename_i c _ _ _ _ _
      cases (c == Value.type "enumerate")
      · wp_walk using q1
        exact ⟨_, rfl, h⟩
      · wp_walk using q1
        exact ⟨_, rfl, h⟩
    · wp_walk using q1
      exact ⟨_, rfl, h⟩
theorem enum1_begins {prog : Program} {w : World} {A : Around} {E : Value → Shared → Prop} {s : Shared} {v : Value} {o : Obj} {H : Heap → Prop} {Q : Value → Shared → Prop} (B : Begins v o H) (h1 : H s.heap)
    (h : ∀ h', IsEnum h' (s.heap.objs.size + 1) s.heap.objs.size 0 .none → h'.get? s.heap.objs.size = some o → h'.objs.size = s.heap.objs.size + 2 →
      (∀ b o, s.heap.get? b = some o → h'.get? b = some o) → Q (.ref (s.heap.objs.size + 1)) { s with heap := h' }) :
    wpAny (model prog w) A (call (.type "enumerate") [v]) Q E s := by
  refine callType_new F.called_enumerate (by decide) (F.typeCall_enumerate_1 _) (F.newCall_enumerate_1 _) (fun obj => F.args_object_init_2 obj _) F.entry_enumerate_new
    (meets_enum1B B) ⟨h1, ?_⟩
  have hz : (s.heap.push o).objs.size = s.heap.objs.size + 1 := Heap.size_push ..
  show _ ∧ _
  rw [hz]
  have he : IsEnum ((s.heap.push o).push { cls := .type "enumerate", data := .fields #[.none, .bool false, .ref s.heap.objs.size, rawInt 0, .none, .none] }) (s.heap.objs.size + 1) s.heap.objs.size 0 .none := by
    have := Heap.get?_push_size (s.heap.push o) (o := { cls := .type "enumerate", data := .fields #[.none, .bool false, .ref s.heap.objs.size, rawInt 0, .none, .none] }) rfl
    rw [hz] at this; exact this
  refine ⟨⟨_, he, rfl⟩, h _ he (Heap.get?_push_of_some _ (Heap.get?_push_size _ B.free)) (by rw [Heap.size_push, hz]) fun b o x => Heap.get?_push_of_some _ (Heap.get?_push_of_some _ x)⟩
end
/-- the tuple at a, each item in a new pair -/
def Itte (K : PySem.W.Frag) (a : Addr) : It :=
  ⟨fun i H => ∃ (xs : List V) (x : V), SqT K H a xs ∧ xs[i]? = some x, fun i H v H' => ∃ T x, v = .ref T ∧ H T = none ∧ H' = upd H T (.tup [.int (i : Nat), x]) ∧ ∀ xs, SqT K H a xs → xs[i]? = some x, fun i H => ∃ xs : List V, SqT K H a xs ∧ xs.length ≤ i⟩
theorem pyNext_enumT_end {prog : Program} {w : World} {A : Around} {E : Value → Shared → Prop} {s : Shared} {e it a : Addr} {i : Nat} {items : Array Value} {old : Value} {Q : Option Value → Shared → Prop} (hh : A.handled = none) (he : IsEnum s.heap e it (i : Nat) old) (hit : s.heap.IsTupleIter it a i) (ht : s.heap.IsTuple a items) (hx : items[i]? = none)
    (hQ : ∀ h', Heap.ExtBut it s.heap h' → Q none { s with heap := h' }) : wpAny (model prog w) A (pyNext (.ref e)) Q E s := by
  have hT : s.TypeIs (.ref e) "enumerate" := ⟨_, he, rfl⟩
  unfold pyNext
  refine wpAny_bind (wpAny_attempt (wpAny_callSpecial?_slot (name := Str.ofString "__next__") hT F.slot_enumerate_next
    (wpAny_call_entry F.slot_enumerate_next hT F.entry_enumerate_next ?_ (F.args_enumerate_next_1 _))))
  show wpAny _ _ (field (.ref e) 2 >>= _) _ _ _
  refine wpAny_bind (wpAny_field he rfl (x := .ref it) rfl ?_)
  refine wpAny_bind (wpAny_nextOf_tuple_end hh hit ht hx fun h' x he' hx' => ?_)
  obtain ⟨o, ho, hc⟩ := hx'
  refine wpAny_bind (wpAny_isInstance (T := "StopIteration") (b := true) ⟨o, ho, hc⟩ isSubtype_stop ?_)
  exact wpAny_pure (hQ _ he')
theorem turn_enumT {P : Program} {w : World} {K : PySem.W.Frag} {elts : List Expr} {kk : Nat} {tpos : PySem.Pos} (a e it : Addr) :
    Turn P w K (.Tuple elts kk tpos) (Itte K a) [e, it] e (fun i h => (∃ old, IsEnum h e it ((i : Nat) : Int) old) ∧ h.IsTupleIter it a i ∧ e ≠ it) where
  mem := by simp
  obj := fun i h st b hb => by
    obtain ⟨⟨old, he⟩, ⟨o, ho, hc, hd⟩, _⟩ := st
    have e' : b = e ∨ b = it := by simpa using hb
    rcases e' with z | z
    · rw [z]; exact ⟨_, he, fun v q => nomatch q⟩
    · rw [z]; exact ⟨o, ho, fun v q => by rw [hd] at q; cases q⟩
  keep := fun i h h' st k => let ⟨⟨old, he⟩, hi, hne⟩ := st; ⟨⟨old, k e (by simp) _ he⟩, hi.at fun o q => k it (by simp) o q, hne⟩
  item := by
    intro X hP hw hK hc i pins s σ H E I hf st hg
    subst hP hw hK
    obtain ⟨⟨old, he⟩, hit, hne⟩ := st
    obtain ⟨xs, x, hq, hx⟩ := hg
    obtain ⟨its, rv, p, hz⟩ := I.tuple hq
    have p' : s.heap.IsTuple a its.toArray := p
    obtain ⟨u, hu, ru⟩ := rv.get hx
    have hel : e < s.heap.objs.size := Heap.lt_size he
    have hil : it < s.heap.objs.size := by obtain ⟨_, q, _⟩ := hit; exact Heap.lt_size q
    have hae : e ≠ a := fun q => by
      obtain ⟨o, ho, hc1, _⟩ := p'
      rw [← q, he] at ho
      cases ho
      have hc1 : Value.type "enumerate" = Value.type "tuple" := hc1
      exact absurd hc1 (by decide)
    have hai : a ≠ it := fun q => by
      obtain ⟨o, ho, hc1, _⟩ := p'
      obtain ⟨o2, ho2, hc2, _⟩ := hit
      rw [q, ho2] at ho
      cases ho
      rw [hc2] at hc1
      exact absurd hc1 (by decide)
    have hul : i < its.toArray.size := by
      have := (List.getElem?_eq_some_iff.mp hu).1
      simpa using this
    refine wpAny_pyNext_enum_itemD (Draws.tuple (A := X.A.in1) (I.ok.hd hc) it a hai its.toArray) he ⟨hit, p'⟩ hul hne (by simp [hne, hae]) fun u' h' tk hP ho st' hT hsz hk => ?_
    have eu : u' = u := by
      have : its.toArray[i]? = some u' := hP
      have h2 : its.toArray[i]? = some u := by simpa using hu
      rw [h2] at this
      exact (Option.some.inj this).symm
    subst eu
    refine ⟨_, rfl, wpAny_letOwnedTupleGo_enum (s := { s with heap := h', toks := tk + 1 }) ho fun h'' he' sb => ?_⟩
    have hT2 : h''.get? s.heap.objs.size = some { cls := .type "tuple", data := .seq #[.int i tk, u'] } := (sb.2 _ (Nat.ne_of_gt hel)).trans hT
    have new : ObjOk X.prog X.w (upd H s.heap.objs.size (.tup [.int (i : Nat), x])) h'' s.heap.objs.size (.tup [.int (i : Nat), x]) :=
      ⟨by show 2 ≤ sizeLine; decide, [.int i tk, u'], .cons ⟨_, rfl⟩ (.cons ru .nil), ⟨_, hT2, rfl, _, rfl⟩⟩
    have I1 : Inv X pins σ (upd H s.heap.objs.size (.tup [.int (i : Nat), x])) { s with heap := h'', toks := tk + 1 } :=
      I.turnedNew (ch := [e, it]) (fun b ob hb q => (sb.2 b (fun z => hb (by simp [z]))).trans (hk b ob (fun z => hb (by simp [z])) (fun z => hb (by simp [z])) q)) hf (Nat.le_refl _) new
    refine ⟨.ref s.heap.objs.size, _, I1, rfl, ⟨_, x, rfl, I.hok.fresh (Nat.le_refl _), rfl, fun ys hy => by rw [I.tuple_inj hy hq]; exact hx⟩, ⟨⟨u', ?_⟩, st'.1.at fun o q => (sb.2 it (Ne.symm hne)).trans q, hne⟩, fun b hb => ?_⟩
    · have e1 : ((i + 1 : Nat) : Int) = (i : Int) + 1 := by omega
      rw [e1]; exact he'
    · have hb' : b < s.heap.objs.size := by
        have e' : b = e ∨ b = it := by simpa using hb
        rcases e' with z | z
        · rw [z]; exact hel
        · rw [z]; exact hil
      rw [upd_ne (Nat.ne_of_lt hb')]
      exact (hf b hb).1
  done := by
    intro X hP hw hK hc i pins s σ H E I hf st hg
    subst hP hw hK
    obtain ⟨⟨old, he⟩, hit, hne⟩ := st
    obtain ⟨xs, hq, hx⟩ := hg
    obtain ⟨its, rv, p, hz⟩ := I.tuple hq
    have p' : s.heap.IsTuple a its.toArray := p
    obtain ⟨f0, f1, f2, f3, f4, f5⟩ := hf it (by simp)
    have hl := rv.length
    have hai : a ≠ it := fun q => by
      obtain ⟨o, ho, hc1, _⟩ := p'
      obtain ⟨o2, ho2, hc2, _⟩ := hit
      rw [q, ho2] at ho
      cases ho
      rw [hc2] at hc1
      exact absurd hc1 (by decide)
    exact pyNext_enumT_end (I.ok.hd hc) he hit p' (by simp; omega) fun h' eb => ⟨rfl, I.turned (t' := s.toks) (fun b o hb q => eb b o hb q) f0 f1 f3 f4 f5⟩
  self := fun A i s Q E st h => let ⟨⟨_, he⟩, _⟩ := st; wpAny_pyIter_enum he h
def iEnumA (K : PySem.W.Frag) (ta : TA) : TI := fun σ H R => ta σ H fun vs H1 => ∃ a, vs = [.ref a] ∧ ((∃ xs, SqL K H1 a xs ∧ R (Ite K a) H1) ∨ (∃ xs, SqT K H1 a xs ∧ R (Itte K a) H1))
theorem pi_enumA {X : Cx} {e : Expr} {ta : TA} {p pos tpos : PySem.Pos} {elts : List Expr} {kk : Nat} (hg : Gl X "enumerate") (hm : X.mg "enumerate" = none) (ha : PA X [e] ta) (hs : starEach [e] X.env = [(false, eval e X.env)]) :
    PI X (.Tuple elts kk tpos) (.Call (.Name "enumerate" p) [e] [] pos) (iEnumA X.K ta) := by
  refine ⟨fun pins s σ H R I h => ?_⟩
  refine Call_ (ld_blt I hg hm boot_enumerate (PyProof.Rows.callWith_type1 (thn (ha.run pos pins s σ H _ I h) fun us s1 ⟨vs, H1, I1, r1, q1⟩ => ?_) hs rfl))
  obtain ⟨a, ex, q1⟩ := q1
  subst ex
  cases r1 with
  | cons r rr =>
    cases rr
    cases r
    have fresh : ∀ b, b ∈ [s1.heap.objs.size + 1, s1.heap.objs.size] → FpOk X pins H1 b := fun b hb => by
      have e' : b = s1.heap.objs.size + 1 ∨ b = s1.heap.objs.size := by simpa using hb
      have hle : s1.heap.objs.size ≤ b := by
        rcases e' with z | z
        · rw [z]; exact Nat.le_add_right _ _
        · rw [z]; exact Nat.le_refl _
      exact I1.fpOk hle (I1.hok.fresh hle)
    rcases q1 with ⟨xs, hq, q⟩ | ⟨xs, hq, q⟩
    · obtain ⟨its, rv, p', hz⟩ := I1.list hq
      refine call_enumerate_list p'.isList fun h' he hit hsz hk => wpAny_pyIter_enum he ?_
      have I2 : Inv X pins σ H1 { s1 with heap := h' } := I1.kept (t' := s1.toks) hk
      exact ⟨s1.heap.objs.size + 1, [s1.heap.objs.size + 1, s1.heap.objs.size], _, _, H1, rfl, I2, turn_enum a (s1.heap.objs.size + 1) s1.heap.objs.size, ⟨⟨.none, he⟩, hit, Nat.succ_ne_self _⟩, fresh, q⟩
    · obtain ⟨its, rv, p', hz⟩ := I1.tuple hq
      refine enum1_begins (begins_tuple a its.toArray) p' fun h' he hit hsz hk => wpAny_pyIter_enum he ?_
      have I2 : Inv X pins σ H1 { s1 with heap := h' } := I1.kept (t' := s1.toks) hk
      exact ⟨s1.heap.objs.size + 1, [s1.heap.objs.size + 1, s1.heap.objs.size], _, _, H1, rfl, I2, turn_enumT a (s1.heap.objs.size + 1) s1.heap.objs.size, ⟨⟨.none, he⟩, ⟨_, hit, rfl, rfl⟩, Nat.succ_ne_self _⟩, fresh, q⟩
def enumL : Nat → List D → List D
  | _, [] => []
  | k, d :: ds => .tuple [.int (k : Nat), d] :: enumL (k + 1) ds
theorem enumL_len : ∀ (k : Nat) (ds : List D), (enumL k ds).length = ds.length
  | _, [] => rfl
  | k, d :: ds => by simp [enumL, enumL_len (k + 1) ds]
theorem enumL_get : ∀ (k : Nat) (ds : List D) (i : Nat), (enumL k ds)[i]? = ds[i]?.map fun d => .tuple [.int ((k + i : Nat) : Int), d]
  | _, [], _ => by simp [enumL]
  | k, d :: ds, 0 => by simp [enumL]
  | k, d :: ds, i + 1 => by
    rw [enumL, List.getElem?_cons_succ, enumL_get (k + 1) ds i, List.getElem?_cons_succ]
    congr 1
    funext d'
    rw [show k + 1 + i = k + (i + 1) by omega]
def seqD : D → Option (List D)
  | .list ds => some ds
  | .tuple ds => some ds
  | _ => none
def en1 : List D → Option (List D)
  | [d] => (seqD d).map (enumL 0)
  | _ => none
def enM (rs : List R) : M (List D) := M.bind (frzs rs) fun ds ρ => match en1 ds with
  | some es => .ok es ρ
  | none => .bad
section
variable {K : PySem.W.Frag} {P O : List Addr} {H : Hp}
theorem itOk_enum {a : Addr} {vs : List V} {ds : List D} (hP : ∀ b ∈ P, b ∉ O ∧ ∃ o, H b = some o) (h1 : SqL K (wo (O ++ P) H) a vs) (h2 : RpAll K (wo (O ++ P) H) vs ds) : ItOk K P (Ite K a) (enumL 0 ds) O H := by
  intro G A O1 H1 σ ρ hG e s i
  have m := s.woG hP hG
  have g1 : SqL K H1 a vs := sql_mono wo_sub (sql_mono m h1)
  refine ⟨fun d hd => ?_, fun hl => ⟨vs, g1, by rw [h2.length]; rw [enumL_len] at hl; exact hl⟩⟩
  rw [enumL_get] at hd
  obtain ⟨d0, hd0, rfl⟩ := Option.map_eq_some_iff.mp hd
  obtain ⟨v, hv, rv⟩ := h2.get hd0
  exact ⟨⟨vs, v, g1, hv⟩, fun x H' y => by
    obtain ⟨T, v', rfl, hT, rfl, y⟩ := y
    have z := y vs g1
    rw [hv] at z
    cases z
    have ext : ∀ b o, H1 b = some o → upd H1 T (.tup [.int ((i : Nat) : Int), v]) b = some o := fun b o q => by
      rw [upd_ne (fun z => by rw [z, hT] at q; cases q)]
      exact q
    refine ⟨ext, ?_⟩
    have nT : T ∉ O1 ++ (G ++ P) := fun z => by
      rcases List.mem_append.mp z with z | z
      · obtain ⟨o, ho⟩ := e.trk T z
        rw [hT] at ho
        cases ho
      · obtain ⟨_, o, ho⟩ := e.prot T z
        rw [hT] at ho
        cases ho
    have ew : ∀ b o, wo (O1 ++ (G ++ P)) H1 b = some o → wo (O1 ++ (G ++ P)) (upd H1 T (.tup [.int ((i : Nat) : Int), v])) b = some o := fun b o q => by
      obtain ⟨q1, q2⟩ := wo_some.mp q
      exact wo_some.mpr ⟨q1, ext b o q2⟩
    rw [Nat.zero_add]
    exact .tup (.inl (.inl (wo_some.mpr ⟨nT, upd_same⟩))) (.cons (.int _) (.cons ((rv.mono m).mono ew) .nil))⟩
theorem itOk_enumT {a : Addr} {vs : List V} {ds : List D} (hP : ∀ b ∈ P, b ∉ O ∧ ∃ o, H b = some o) (h1 : SqT K (wo (O ++ P) H) a vs) (h2 : RpAll K (wo (O ++ P) H) vs ds) : ItOk K P (Itte K a) (enumL 0 ds) O H := by
  intro G A O1 H1 σ ρ hG e s i
  have m := s.woG hP hG
  have g1 : SqT K H1 a vs := sqt_mono wo_sub (sqt_mono m h1)
  refine ⟨fun d hd => ?_, fun hl => ⟨vs, g1, by rw [h2.length]; rw [enumL_len] at hl; exact hl⟩⟩
  rw [enumL_get] at hd
  obtain ⟨d0, hd0, rfl⟩ := Option.map_eq_some_iff.mp hd
  obtain ⟨v, hv, rv⟩ := h2.get hd0
  exact ⟨⟨vs, v, g1, hv⟩, fun x H' y => by
    obtain ⟨T, v', rfl, hT, rfl, y⟩ := y
    have z := y vs g1
    rw [hv] at z
    cases z
    have ext : ∀ b o, H1 b = some o → upd H1 T (.tup [.int ((i : Nat) : Int), v]) b = some o := fun b o q => by
      rw [upd_ne (fun z => by rw [z, hT] at q; cases q)]
      exact q
    refine ⟨ext, ?_⟩
    have nT : T ∉ O1 ++ (G ++ P) := fun z => by
      rcases List.mem_append.mp z with z | z
      · obtain ⟨o, ho⟩ := e.trk T z
        rw [hT] at ho
        cases ho
      · obtain ⟨_, o, ho⟩ := e.prot T z
        rw [hT] at ho
        cases ho
    have ew : ∀ b o, wo (O1 ++ (G ++ P)) H1 b = some o → wo (O1 ++ (G ++ P)) (upd H1 T (.tup [.int ((i : Nat) : Int), v])) b = some o := fun b o q => by
      obtain ⟨q1, q2⟩ := wo_some.mp q
      exact wo_some.mpr ⟨q1, ext b o q2⟩
    rw [Nat.zero_add]
    exact .tup (.inl (.inl (wo_some.mpr ⟨nT, upd_same⟩))) (.cons (.int _) (.cons ((rv.mono m).mono ew) .nil))⟩
end
section
variable {X : Cx} {W : WX} {e : Expr} {pos tpos : PySem.Pos} {ms : M (List R)} {elts : List Expr} {kk : Nat}
theorem ji_enum {p : PySem.Pos} (hg : Gl X "enumerate") (hm : X.mg "enumerate" = none) (ha : JEs X W [e] ms) (hs : starEach [e] X.env = [(false, eval e X.env)]) : JI X W (.Tuple elts kk tpos) (.Call (.Name "enumerate" p) [e] [] pos) (M.bind ms enM) :=
  (pi_enumA hg hm ha hs).imp fun σ H R h => by
    obtain ⟨P, A, O, ρ, e, h⟩ := h
    refine ⟨P, A, O, ρ, e, (Aft.bind (rl := relRs X.K σ) h).mono ?_⟩
    rintro vs H1 ⟨O1, ρ1, rs, F, e1, r1, s1, h1⟩
    unfold enM at h1
    obtain ⟨O2, ρ2, ds, e2, s2, p2, h2⟩ := Aft.frzs e1 r1 (h1.step s1.less)
    cases q : en1 ds with
    | none =>
      simp only [q] at h2
      exact h2.elim
    | some es =>
      simp only [q] at h2
      unfold en1 at q
      split at q
      · rename_i d
        obtain ⟨ds0, q0, rfl⟩ := Option.map_eq_some_iff.mp q
        obtain ⟨v, rfl, p⟩ : ∃ v, vs = [v] ∧ Rp X.K (wo (O2 ++ P) H1) v d := by
          cases p2 with
          | cons a b =>
            cases b
            exact ⟨_, rfl, a⟩
        have fin : ∀ J, ItOk X.K P J (enumL 0 ds0) O2 H1 → R J H1 := fun J hJ => h2 J H1 O2 [] e2 ⟨rfl, hJ⟩ (Step.refl _ _)
        cases p with
        | @lst a xs es g1 g2 =>
          cases q0
          exact ⟨a, rfl, .inl ⟨xs, sql_mono wo_sub g1, fin _ (itOk_enum e2.prot g1 g2)⟩⟩
        | @tup a xs es g1 g2 =>
          cases q0
          exact ⟨a, rfl, .inr ⟨xs, sqt_mono wo_sub g1, fin _ (itOk_enumT e2.prot g1 g2)⟩⟩
        | str z => cases q0
        | non => cases q0
        | bl b => cases q0
        | int b => cases q0
      · cases q
abbrev itE (ms : M (List R)) : M (List D) := M.bind ms enM
end
@[simp] theorem enM_ap (rs : List R) (ρ : Rho) : enM rs ρ = (frzs rs ρ).bnd fun ds ρ' => itO ρ' (en1 ds) := by
  show (frzs rs ρ).bnd _ = _
  congr 1
@[simp] theorem en1_t (ds : List D) : en1 [.tuple ds] = some (enumL 0 ds) := (rfl)
@[simp] theorem en1_l (ds : List D) : en1 [.list ds] = some (enumL 0 ds) := (rfl)
end DL

set_option Elab.async false
set_option maxRecDepth 100000
set_option maxHeartbeats 4000000
set_option exponentiation.threshold 5000
namespace DL
open PySem L2
/-! ### glues -/
structure Tn (m : M4) : Prop where
  det : m.det = 1
  up : ¬ m.down
theorem Tn.tm {x y : M4} (a : Tn x) (b : Tn y) : Tn (x.tm y) := ⟨M4.det_tm a.det b.det, M4.tm_up a.det b.det⟩
theorem Tn.inv {x : M4} (a : Tn x) : Tn x.inv := ⟨M4.det_inv a.det, M4.inv_up a.det⟩
theorem Tn.one : Tn M4.one := ⟨by decide, by decide⟩
theorem Tn.S : Tn M4.S := ⟨by decide, by decide⟩
theorem Tn.assoc {x y z : M4} (a : Tn x) (b : Tn y) (c : Tn z) : (x.tm y).tm z = x.tm (y.tm z) := M4.tm_assoc a.det b.det c.det
theorem Tn.left {x y z : M4} (a : Tn x) (b : Tn y) (c : Tn z) (h : x.tm y = x.tm z) : y = z := by
  have : x.inv.tm (x.tm y) = x.inv.tm (x.tm z) := by rw [h]
  rwa [← a.inv.assoc a b, ← a.inv.assoc a c, M4.inv_tm a.det, M4.one_tm b.up, M4.one_tm c.up] at this
theorem Tn.right {x y z : M4} (a : Tn x) (b : Tn y) (c : Tn z) (h : y.tm x = z.tm x) : y = z := by
  have : (y.tm x).tm x.inv = (z.tm x).tm x.inv := by rw [h]
  rwa [b.assoc a a.inv, c.assoc a a.inv, M4.tm_inv a.det, M4.tm_one b.up, M4.tm_one c.up] at this
def T3 : M4 := (M4.S.tm M4.R).tm M4.S
/-- from b by t to a -/
def br (a b t : M4) : M4 := (a.tm t).tm b.inv
theorem br_tn {a b t : M4} (ha : Tn a) (hb : Tn b) (ht : Tn t) : Tn (br a b t) := (ha.tm ht).tm hb.inv
theorem br_mul {a b c s t : M4} (ha : Tn a) (hb : Tn b) (hc : Tn c) (hs : Tn s) (ht : Tn t) : (br a b s).tm (br b c t) = br a c (s.tm t) := by
  unfold br
  rw [(ha.tm hs).assoc hb.inv ((hb.tm ht).tm hc.inv), ← hb.inv.assoc (hb.tm ht) hc.inv, ← hb.inv.assoc hb ht, M4.inv_tm hb.det, M4.one_tm ht.up, ← (ha.tm hs).assoc ht hc.inv, ha.assoc hs ht]
theorem br_one {a : M4} (ha : Tn a) : br a a M4.one = M4.one := by
  unfold br
  rw [M4.tm_one ha.up, M4.tm_inv ha.det]
theorem br_ne {a t : M4} (ha : Tn a) (ht : Tn t) (h : br a a t = M4.one) : t = M4.one := by
  unfold br at h
  have e : a.tm t = a := by
    refine ha.inv.right (ha.tm ht) ha ?_
    rw [h, M4.tm_inv ha.det]
  refine ha.left ht Tn.one ?_
  rw [e, M4.tm_one ha.up]
/-! ### the gaps' turnings as numbers -/
def gx (mid : List P2) (i : Nat) : P2 := (Fs mid).getD i (1, 0)
def gy (mid : List P2) (i : Nat) : P2 := (Fs mid).getD ((i + 1) % (mid.length + 1)) (1, 0)
def ge (mid : List P2) (i : Nat) : Int := (gx mid i).1 * (gy mid i).2 - (gx mid i).2 * (gy mid i).1
def gm (mid : List P2) (i : Nat) : M4 := ⟨(gx mid i).1, ge mid i * (gy mid i).1, (gx mid i).2, ge mid i * (gy mid i).2⟩
theorem Fan.gapN {mid : List P2} {ms : List Mk} (h : Fan mid ms) {i : Nat} (hi : i ≤ mid.length) : IsGap mid i (gm mid i) (gx mid i) (gy mid i) (ge mid i) := by
  obtain ⟨m, x, y, e, g⟩ := h.isGap hi
  have hx : gx mid i = x := by
    unfold gx
    rw [List.getD_eq_getElem?_getD, g.fst]
    rfl
  have hy : gy mid i = y := by
    unfold gy
    rw [List.getD_eq_getElem?_getD, g.snd]
    rfl
  have he : ge mid i = e := by
    unfold ge
    rw [hx, hy, g.cross]
  have hm : gm mid i = m := by
    unfold gm
    rw [hx, hy, he, g.eq]
  rw [hx, hy, he, hm]
  exact g
theorem IsGap.tn {mid : List P2} {i : Nat} {m : M4} {x y : P2} {e : Int} (g : IsGap mid i m x y e) : Tn m := ⟨g.det, g.up⟩
def glueM (mid : List P2) (ms : List Mk) (i : Nat) : M4 := match ms[i]? with
  | some .half => br (gm mid i) (gm mid i) M4.S
  | some .third => br (gm mid i) (gm mid i) T3
  | some (.pair j) => br (gm mid j) (gm mid i) M4.S
  | none => M4.one
theorem Tn.T3 : Tn T3 := ⟨by decide, by decide⟩
noncomputable def w_carried : M Fl := retS (callF ft_times (argC (callF ft_times (argC (getM 0) (argC (getM 1) (argN)))) (argC (callF ft_contrary (argC (getM 0) (argN))) (argN))))
noncomputable def ft_carried : List D → FO := runF 0 w_carried
noncomputable def w_glue : M Fl := seqM (setS 2 (DL.bin fIx (DL.bin fIx (getM 0) (cst (.int 1))) (getM 1)))
  (seqM (setS 3 (callF ft_gapT (argC (getM 0) (argC (getM 1) (argN)))))
  (seqM (ifS (tcmp fEq (getM 2) (cst (.str "half"))) (retS (callF ft_carried (argC (getM 3) (argC (cst (.tuple [(.int 0), (.int (-1)), (.int 1), (.int 0)])) (argN))))) (nilS))
  (seqM (ifS (tcmp fEq (getM 2) (cst (.str "third"))) (retS (callF ft_carried (argC (getM 3) (argC (callF ft_times (argC (callF ft_times (argC (cst (.tuple [(.int 0), (.int (-1)), (.int 1), (.int 0)])) (argC (cst (.tuple [(.int 0), (.int (-1)), (.int 1), (.int (-1))])) (argN)))) (argC (cst (.tuple [(.int 0), (.int (-1)), (.int 1), (.int 0)])) (argN)))) (argN))))) (nilS))
  (retS (callF ft_times (argC (callF ft_times (argC (callF ft_gapT (argC (getM 0) (argC (getM 2) (argN)))) (argC (cst (.tuple [(.int 0), (.int (-1)), (.int 1), (.int 0)])) (argN)))) (argC (callF ft_contrary (argC (getM 3) (argN))) (argN))))))))
noncomputable def ft_glue : List D → FO := runF 2 w_glue
noncomputable def wl_glue : M Fl := seqM (setS 2 (DL.bin fIx (DL.bin fIx (getM 0) (cst (.int 1))) (getM 1)))
  (seqM (setS 3 (callF fl_gap (argC (getM 0) (argC (getM 1) (argN)))))
  (seqM (ifS (tcmp fEq (getM 2) (cst (.str "half"))) (setS 4 (callF f_times (argC (getM 3) (argC (tupM (argC (cst (.int 0)) (argC (un fNeg (cst (.int 1))) (argC (cst (.int 1)) (argC (cst (.int 0)) (argN)))))) (argN))))) (ifS (tcmp fEq (getM 2) (cst (.str "third"))) (setS 4 (callF f_times (argC (callF f_times (argC (getM 3) (argC (tupM (argC (cst (.int 0)) (argC (un fNeg (cst (.int 1))) (argC (cst (.int 1)) (argC (cst (.int 0)) (argN)))))) (argN)))) (argC (callF f_times (argC (tupM (argC (cst (.int 0)) (argC (un fNeg (cst (.int 1))) (argC (cst (.int 1)) (argC (un fNeg (cst (.int 1))) (argN)))))) (argC (tupM (argC (cst (.int 0)) (argC (un fNeg (cst (.int 1))) (argC (cst (.int 1)) (argC (cst (.int 0)) (argN)))))) (argN)))) (argN))))) (setS 4 (callF f_times (argC (callF fl_gap (argC (getM 0) (argC (getM 2) (argN)))) (argC (tupM (argC (cst (.int 0)) (argC (un fNeg (cst (.int 1))) (argC (cst (.int 1)) (argC (cst (.int 0)) (argN)))))) (argN)))))))
  (retS (callF f_times (argC (getM 4) (argC (callF fl_contrary (argC (getM 3) (argN))) (argN)))))))
noncomputable def fl_glue : List D → FO := runF 3 wl_glue

theorem Tn.R : Tn M4.R := ⟨by decide, by decide⟩
theorem S_lt : M4.S.lt 2 := by unfold M4.lt M4.S; decide
theorem R_lt : M4.R.lt 2 := by unfold M4.lt M4.R; decide
theorem T3_lt : T3.lt 3 := by unfold M4.lt; decide
theorem T3_law : (M4.S.tm (M4.R.tm M4.S)) = T3 := by decide
/-- a mark against a text -/
theorem mk_half_eq (m : Mk) : fEq (mkD m) (.str "half") = some (.val (.bool (match m with | .half => true | _ => false))) := by
  cases m with
  | half =>
    show some (T.val (.bool (decide (("half" : Str) = "half")))) = _
    rw [decide_eq_true rfl]
  | third =>
    show some (T.val (.bool (decide (("third" : Str) = "half")))) = _
    rw [decide_eq_false (by decide +kernel)]
  | pair j => rfl
theorem carried_ok {x t : M4} {j k : Nat} (hx : x.lt j) (ht : t.lt k) (h : j + k < 100000) (nx : Tn x) (nt : Tn t) : ft_carried [x.D, t.D] = .ok (.val (br x x t).D) := by
  have a := ttimes_ok hx ht (by omega) nx.det nt.det
  have b := tcontrary_ok hx (by omega) nx.det
  have c := ttimes_ok (M4.tm_lt hx ht) (M4.inv_lt hx) (by omega) (nx.tm nt).det nx.inv.det
  have s1 := scalD_D x
  have s2 := scalD_D t
  have s3 := scalD_D (x.tm t)
  have s4 := scalD_D x.inv
  have s5 := scalD_D (br x x t)
  unfold ft_carried w_carried
  rw [run_eq]
  have c' : ft_times [(x.tm t).D, x.inv.D] = .ok (.val (br x x t).D) := c
  generalize x.D = dx at *
  generalize t.D = dt at *
  generalize (x.tm t).D = dxt at *
  generalize x.inv.D = di at *
  generalize (br x x t).D = db at *
  simp [a, b, c', s1, s2, s3, s4, s5]
theorem glue_get {mid : List P2} {ms : List Mk} {i : Nat} {m : Mk} (h : ms[i]? = some m) : atI (ms.map mkD) (i : Int) = some (mkD m) := mk_at h
theorem tglue_ok {mid : List P2} {ms : List Mk} (h : Fan mid ms) {i : Nat} (hi : i ≤ mid.length) : ft_glue [fanD mid ms, .int i] = .ok (.val (glueM mid ms i).D) := by
  have g := h.gapN hi
  have ng := g.tn
  have gt := gapT_ok (ms := ms) g
  have hl := h.len
  have hm : ms[i]? = some (ms[i]'(by omega)) := List.getElem?_eq_getElem (by omega)
  generalize ms[i]'(by omega) = m at hm
  have am := mk_at hm
  have s1 := scalD_D (gm mid i)
  have eh := mk_half_eq m
  have et := fEq_third m
  unfold glueM
  rw [hm]
  unfold ft_glue w_glue
  rw [run_eq]
  cases m with
  | half =>
    have c := carried_ok g.lt S_lt (by decide) ng Tn.S
    have s2 := scalD_D (br (gm mid i) (gm mid i) M4.S)
    simp only [mkD, isThird] at eh et am
    simp only [M4.S, M4.D] at c ⊢
    simp only [M4.D] at gt s1 s2
    unfold fanD at *
    generalize ms.map mkD = r2 at *
    generalize (Fs mid).map fD = row at *
    simp [am, gt, eh, c, s1, s2]
  | third =>
    have c := carried_ok g.lt T3_lt (by decide) ng Tn.T3
    have a1 := ttimes_ok S_lt R_lt (by decide) Tn.S.det Tn.R.det
    have a2 := ttimes_ok (M4.tm_lt S_lt R_lt) S_lt (by decide) (Tn.S.tm Tn.R).det Tn.S.det
    have a2' : ft_times [(M4.S.tm M4.R).D, M4.S.D] = .ok (.val T3.D) := a2
    have s2 := scalD_D (br (gm mid i) (gm mid i) T3)
    have s3 := scalD_D (M4.S.tm M4.R)
    have s4 := scalD_D T3
    have eS : (PyData.tuple [.int 0, .int (-1), .int 1, .int 0]) = M4.S.D := rfl
    have eR : (PyData.tuple [.int 0, .int (-1), .int 1, .int (-1)]) = M4.R.D := rfl
    have s5 := scalD_D M4.S
    have s6 := scalD_D M4.R
    simp only [mkD, isThird] at eh et am
    unfold fanD at *
    rw [eS, eR]
    generalize ms.map mkD = r2 at *
    generalize (Fs mid).map fD = row at *
    generalize (br (gm mid i) (gm mid i) T3).D = d1 at *
    generalize (gm mid i).D = d2 at *
    generalize (M4.S.tm M4.R).D = d3 at *
    generalize M4.S.D = d4 at *
    generalize M4.R.D = d5 at *
    generalize T3.D = d6 at *
    simp [am, gt, eh, et, c, a1, a2', s1, s2, s3, s4, s5, s6]
  | pair j =>
    obtain ⟨_, fj, _, _⟩ := h.marks.fit i j hm
    have hj := (List.getElem?_eq_some_iff.mp fj).1
    have g' := h.gapN (i := j) (by omega)
    have gt' := gapT_ok (ms := ms) g'
    have a1 := ttimes_ok g'.lt S_lt (by decide) g'.det Tn.S.det
    have a2 := tcontrary_ok g.lt (by decide) g.det
    have a3 := ttimes_ok (M4.tm_lt g'.lt S_lt) (M4.inv_lt g.lt) (by decide) (g'.tn.tm Tn.S).det ng.inv.det
    have a3' : ft_times [((gm mid j).tm M4.S).D, (gm mid i).inv.D] = .ok (.val (br (gm mid j) (gm mid i) M4.S).D) := a3
    have eS : (PyData.tuple [.int 0, .int (-1), .int 1, .int 0]) = M4.S.D := rfl
    have s2 := scalD_D (gm mid j)
    have s3 := scalD_D M4.S
    have s4 := scalD_D ((gm mid j).tm M4.S)
    have s5 := scalD_D (gm mid i).inv
    have s6 := scalD_D (br (gm mid j) (gm mid i) M4.S)
    simp only [mkD, isThird] at eh et am
    unfold fanD at *
    rw [eS]
    dsimp only
    generalize ms.map mkD = r2 at *
    generalize (Fs mid).map fD = row at *
    generalize (br (gm mid j) (gm mid i) M4.S).D = d1 at *
    generalize (gm mid i).inv.D = d2 at *
    generalize ((gm mid j).tm M4.S).D = d3 at *
    generalize M4.S.D = d4 at *
    generalize (gm mid i).D = d5 at *
    generalize (gm mid j).D = d6 at *
    simp [am, gt, gt', eh, et, a1, a2, a3', s1, s2, s3, s4, s5, s6]
theorem lglue_ok {mid : List P2} {ms : List Mk} (h : Fan mid ms) {i : Nat} (hi : i ≤ mid.length) : fl_glue [fanD mid ms, .int i] = .ok (.val (glueM mid ms i).D) := by
  have g := h.gapN hi
  have ng := g.tn
  have gt := lgap_ok (ms := ms) g
  have hl := h.len
  have hm : ms[i]? = some (ms[i]'(by omega)) := List.getElem?_eq_getElem (by omega)
  generalize ms[i]'(by omega) = m at hm
  have am := mk_at hm
  have s1 := scalD_D (gm mid i)
  have eh := mk_half_eq m
  have et := fEq_third m
  have co := lcontrary_ok (gm mid i)
  have s9 := scalD_D (gm mid i).inv
  have eS : (PyData.tuple [.int 0, .int (-1), .int 1, .int 0]) = M4.S.D := rfl
  have eR : (PyData.tuple [.int 0, .int (-1), .int 1, .int (-1)]) = M4.R.D := rfl
  have s5 := scalD_D M4.S
  have s6 := scalD_D M4.R
  unfold glueM
  rw [hm]
  unfold fl_glue wl_glue
  rw [run_eq]
  cases m with
  | half =>
    have a1 := times_ok g.lt S_lt (by decide)
    have a2 := times_ok (M4.tm_lt g.lt S_lt) (M4.inv_lt g.lt) (by decide)
    have a2' : f_times [((gm mid i).tm M4.S).D, (gm mid i).inv.D] = .ok (.val (br (gm mid i) (gm mid i) M4.S).D) := a2
    have s2 := scalD_D (br (gm mid i) (gm mid i) M4.S)
    have s4 := scalD_D ((gm mid i).tm M4.S)
    rw [← eS] at a1 s5
    simp only [mkD, isThird] at eh et am
    unfold fanD at *
    dsimp only
    generalize ms.map mkD = r2 at *
    generalize (Fs mid).map fD = row at *
    generalize (br (gm mid i) (gm mid i) M4.S).D = d1 at *
    generalize (gm mid i).inv.D = d2 at *
    generalize ((gm mid i).tm M4.S).D = d3 at *
    generalize (gm mid i).D = d5 at *
    simp [am, gt, eh, et, a1, a2', co, s1, s2, s4, s5, s9]
  | third =>
    have a1 := times_ok g.lt S_lt (by decide)
    have a2 := times_ok R_lt S_lt (by decide)
    have a3 := times_ok (M4.tm_lt g.lt S_lt) (M4.tm_lt R_lt S_lt) (by decide)
    have a4 := times_ok (M4.tm_lt (M4.tm_lt g.lt S_lt) (M4.tm_lt R_lt S_lt)) (M4.inv_lt g.lt) (by decide)
    have e4 : ((gm mid i).tm M4.S).tm (M4.R.tm M4.S) = (gm mid i).tm T3 := by
      rw [ng.assoc Tn.S (Tn.R.tm Tn.S), T3_law]
    rw [e4] at a3 a4
    have a4' : f_times [((gm mid i).tm T3).D, (gm mid i).inv.D] = .ok (.val (br (gm mid i) (gm mid i) T3).D) := a4
    have s2 := scalD_D (br (gm mid i) (gm mid i) T3)
    have s4 := scalD_D ((gm mid i).tm M4.S)
    have s3 := scalD_D (M4.R.tm M4.S)
    have s7 := scalD_D ((gm mid i).tm T3)
    rw [← eS] at a1 a2 s5
    rw [← eR] at a2 s6
    simp only [mkD, isThird] at eh et am
    unfold fanD at *
    dsimp only
    generalize ms.map mkD = r2 at *
    generalize (Fs mid).map fD = row at *
    generalize (br (gm mid i) (gm mid i) T3).D = d1 at *
    generalize (gm mid i).inv.D = d2 at *
    generalize ((gm mid i).tm M4.S).D = d3 at *
    generalize ((gm mid i).tm T3).D = d7 at *
    generalize (M4.R.tm M4.S).D = d8 at *
    generalize (gm mid i).D = d5 at *
    simp [am, gt, eh, et, a1, a2, a3, a4', co, s1, s2, s3, s4, s5, s6, s7, s9]
  | pair j =>
    obtain ⟨_, fj, _, _⟩ := h.marks.fit i j hm
    have hj := (List.getElem?_eq_some_iff.mp fj).1
    have g' := h.gapN (i := j) (by omega)
    have gt' := lgap_ok (ms := ms) g'
    have a1 := times_ok g'.lt S_lt (by decide)
    have a3 := times_ok (M4.tm_lt g'.lt S_lt) (M4.inv_lt g.lt) (by decide)
    have a3' : f_times [((gm mid j).tm M4.S).D, (gm mid i).inv.D] = .ok (.val (br (gm mid j) (gm mid i) M4.S).D) := a3
    have s2 := scalD_D (gm mid j)
    have s4 := scalD_D ((gm mid j).tm M4.S)
    have s7 := scalD_D (br (gm mid j) (gm mid i) M4.S)
    rw [← eS] at a1 s5
    simp only [mkD, isThird] at eh et am
    unfold fanD at *
    dsimp only
    generalize ms.map mkD = r2 at *
    generalize (Fs mid).map fD = row at *
    generalize (br (gm mid j) (gm mid i) M4.S).D = d1 at *
    generalize (gm mid i).inv.D = d2 at *
    generalize ((gm mid j).tm M4.S).D = d3 at *
    generalize (gm mid i).D = d5 at *
    generalize (gm mid j).D = d6 at *
    simp [am, gt, gt', eh, et, a1, a3', co, s1, s2, s4, s5, s7, s9]
end DL

set_option Elab.async false
set_option maxRecDepth 100000
set_option maxHeartbeats 4000000
set_option exponentiation.threshold 5000
namespace DL
open PySem L2
theorem mid_lt {mid : List P2} (h : RowF mid) : ∀ (d a : Nat) (x y : P2), mid[a]? = some x → mid[a + d + 1]? = some y → 0 < crs x y
  | 0, a, x, y, h1, h2 => by rw [mid_next h h1 h2]; decide
  | d + 1, a, x, y, h1, h2 => by
    have hl := (List.getElem?_eq_some_iff.mp h2).1
    have e : mid[a + d + 1]? = some (mid[a + d + 1]'(by omega)) := List.getElem?_eq_getElem (by omega)
    generalize mid[a + d + 1]'(by omega) = z at e
    have c1 := mid_lt h d a x z h1 e
    have c2 := mid_next h e (show mid[a + d + 1 + 1]? = some y by rw [← h2]; congr 1)
    have px := mid_pos h h1
    have py := mid_pos h h2
    have pz := mid_pos h e
    have id : crs x y * z.2 = crs x z * y.2 + crs z y * x.2 := by
      unfold crs
      grind
    rw [c2, Int.one_mul] at id
    have q : 0 < crs x z * y.2 := Int.mul_pos c1 (by omega)
    have : 0 < crs x y * z.2 := by omega
    exact Int.pos_of_mul_pos_left this (by omega)
theorem Fan.inj {mid : List P2} {ms : List Mk} (h : Fan mid ms) {i j : Nat} {x : P2} (h1 : (Fs mid)[i]? = some x) (h2 : (Fs mid)[j]? = some x) : i = j := by
  have no : ∀ (a b : Nat), mid[a]? = some x → mid[b]? = some x → a < b → False := fun a b q1 q2 hab => by
    have := mid_lt h.row (b - a - 1) a x x q1 (by rw [show a + (b - a - 1) + 1 = b by omega]; exact q2)
    unfold crs at this
    rw [Int.mul_comm] at this
    omega
  cases i with
  | zero =>
    cases j with
    | zero => rfl
    | succ j =>
      simp at h1
      have := mid_pos h.row (show mid[j]? = some x by rwa [List.getElem?_cons_succ] at h2)
      rw [← h1] at this
      exact absurd this (by decide)
  | succ i =>
    rw [List.getElem?_cons_succ] at h1
    cases j with
    | zero =>
      simp at h2
      have := mid_pos h.row h1
      rw [← h2] at this
      exact absurd this (by decide)
    | succ j =>
      rw [List.getElem?_cons_succ] at h2
      rcases Nat.lt_trichotomy i j with z | z | z
      · exact (no i j h1 h2 z).elim
      · rw [z]
      · exact (no j i h2 h1 z).elim
theorem smul_a (e : Int) (m : M4) : (M4.smul e m) = ⟨e * m.a, e * m.b, e * m.c, e * m.d⟩ := rfl
theorem mulS (m : M4) : m.mul M4.S = ⟨m.b, -m.a, m.d, -m.c⟩ := by
  simp [M4.mul, M4.S]
/-- the gap that a half turn makes of a gap's turning is no gap's of the fan, but of two fractions -/
theorem half_apart {mid : List P2} {ms : List Mk} (h : Fan mid ms) {i j : Nat} (hi : i ≤ mid.length) (hj : j ≤ mid.length) (hij : j ≠ i) (he : (gm mid j).tm M4.S = gm mid i) : mid.length = 1 := by
  have g := h.gapN hi
  have g' := h.gapN hj
  obtain ⟨e, e1, en⟩ := M4.nrm_sm ((gm mid j).mul M4.S)
  unfold M4.tm at he
  rw [en, mulS, smul_a] at he
  have A := g.eq
  have B := g'.eq
  rw [A, B] at he
  simp only [M4.mk.injEq] at he
  obtain ⟨q1, q2, q3, q4⟩ := he
  have u1 := isF_unique g.f1 g'.f2 (by rw [← q1, ← q3]; grind)
  have u2 : (gx mid j).1 = (gy mid i).1 ∧ (gx mid j).2 = (gy mid i).2 := by
    refine isF_unique g'.f1 g.f2 ?_
    have r2 : ge mid i * (gy mid i).1 = -(e * (gx mid j).1) := by rw [← q2, Int.mul_neg]
    have r4 : ge mid i * (gy mid i).2 = -(e * (gx mid j).2) := by rw [← q4, Int.mul_neg]
    have : ge mid i * ((gx mid j).1 * (gy mid i).2) = ge mid i * ((gx mid j).2 * (gy mid i).1) := by grind
    refine Int.eq_of_mul_eq_mul_left ?_ this
    rcases g.one with z | z <;> rw [z] <;> decide
  have v1 : gx mid i = gy mid j := Prod.ext u1.1 u1.2
  have v2 : gx mid j = gy mid i := Prod.ext u2.1 u2.2
  have w1 := h.inj g.fst (by rw [v1]; exact g'.snd)
  have w2 := h.inj g'.fst (by rw [v2]; exact g.snd)
  have hne := mid_ne h.row
  have hl0 : 0 < mid.length := by
    cases hh : mid with
    | nil => exact absurd hh hne
    | cons _ _ => simp
  by_cases z1 : j + 1 < mid.length + 1
  · rw [Nat.mod_eq_of_lt z1] at w1
    by_cases z2 : i + 1 < mid.length + 1
    · rw [Nat.mod_eq_of_lt z2] at w2
      omega
    · have : i + 1 = mid.length + 1 := by omega
      rw [this, Nat.mod_self] at w2
      omega
  · have : j + 1 = mid.length + 1 := by omega
    rw [this, Nat.mod_self] at w1
    rw [w1, Nat.mod_eq_of_lt (by omega)] at w2
    omega
theorem no_pair2 {ms : List Mk} (h : MkOk ms []) (h2 : ms.length = 2) (ht : ms.any isThird = true) {i j : Nat} (hm : ms[i]? = some (.pair j)) : False := by
  obtain ⟨n, fj, _, _⟩ := h.fit i j hm
  have hi := (List.getElem?_eq_some_iff.mp hm).1
  have hj := (List.getElem?_eq_some_iff.mp fj).1
  obtain ⟨m, m1, m2⟩ := List.any_eq_true.mp ht
  obtain ⟨k, hk⟩ := List.getElem?_of_mem m1
  have hk2 := (List.getElem?_eq_some_iff.mp hk).1
  have : k = i ∨ k = j := by omega
  rcases this with z | z
  · rw [z, hm] at hk
    cases hk
    cases m2
  · rw [z, fj] at hk
    cases hk
    cases m2
theorem glue_tn {mid : List P2} {ms : List Mk} (h : Fan mid ms) {i : Nat} (hi : i ≤ mid.length) : Tn (glueM mid ms i) := by
  have g := (h.gapN hi).tn
  unfold glueM
  split
  · exact br_tn g g Tn.S
  · exact br_tn g g Tn.T3
  · rename_i j hm
    obtain ⟨_, fj, _, _⟩ := h.marks.fit i j hm
    have hj := (List.getElem?_eq_some_iff.mp fj).1
    have hl := h.len
    exact br_tn (h.gapN (i := j) (by omega)).tn g Tn.S
  · exact Tn.one
theorem glue_lt {mid : List P2} {ms : List Mk} (h : Fan mid ms) {i : Nat} (hi : i ≤ mid.length) : (glueM mid ms i).lt 130 := by
  have g := h.gapN hi
  have s := M4.lt_mono S_lt (show 2 ≤ 3 by decide)
  unfold glueM
  split
  · exact M4.lt_mono (M4.tm_lt (M4.tm_lt g.lt s) (M4.inv_lt g.lt)) (by decide)
  · exact M4.lt_mono (M4.tm_lt (M4.tm_lt g.lt T3_lt) (M4.inv_lt g.lt)) (by decide)
  · rename_i j hm
    obtain ⟨_, fj, _, _⟩ := h.marks.fit i j hm
    have hj := (List.getElem?_eq_some_iff.mp fj).1
    have hl := h.len
    exact M4.lt_mono (M4.tm_lt (M4.tm_lt (h.gapN (i := j) (by omega)).lt s) (M4.inv_lt g.lt)) (by decide)
  · exact M4.lt_mono one_lt (by decide)
theorem glue_ne {mid : List P2} {ms : List Mk} (h : Fan mid ms) (ht : mid.length = 1 → ms.any isThird = true) {i : Nat} (hi : i ≤ mid.length) : glueM mid ms i ≠ M4.one := by
  have g := h.gapN hi
  have hl := h.len
  have hm : ms[i]? = some (ms[i]'(by omega)) := List.getElem?_eq_getElem (by omega)
  generalize ms[i]'(by omega) = m at hm
  unfold glueM
  rw [hm]
  intro he
  cases m with
  | half => exact absurd (br_ne g.tn Tn.S he) (by decide)
  | third => exact absurd (br_ne g.tn Tn.T3 he) (by decide)
  | pair j =>
    obtain ⟨n, fj, _, _⟩ := h.marks.fit i j hm
    have hj := (List.getElem?_eq_some_iff.mp fj).1
    have g' := h.gapN (i := j) (by omega)
    have e : (gm mid j).tm M4.S = gm mid i := by
      refine g.tn.inv.right (g'.tn.tm Tn.S) g.tn ?_
      rw [M4.tm_inv g.det]
      exact he
    have := half_apart h hi (by omega) n e
    exact no_pair2 h.marks (by omega) (ht this) hm
theorem glue_half {mid : List P2} {ms : List Mk} (h : Fan mid ms) {i : Nat} (hi : i ≤ mid.length) (hm : ms[i]? = some .half) : (glueM mid ms i).tm (glueM mid ms i) = M4.one := by
  have g := (h.gapN hi).tn
  unfold glueM
  rw [hm]
  dsimp only
  rw [br_mul g g g Tn.S Tn.S, show M4.S.tm M4.S = M4.one by decide, br_one g]
theorem glue_third {mid : List P2} {ms : List Mk} (h : Fan mid ms) {i : Nat} (hi : i ≤ mid.length) (hm : ms[i]? = some .third) : (glueM mid ms i).tm (glueM mid ms i) ≠ M4.one ∧ ((glueM mid ms i).tm (glueM mid ms i)).tm (glueM mid ms i) = M4.one := by
  have g := (h.gapN hi).tn
  unfold glueM
  rw [hm]
  dsimp only
  rw [br_mul g g g Tn.T3 Tn.T3, br_mul g g g (Tn.T3.tm Tn.T3) Tn.T3, show (T3.tm T3).tm T3 = M4.one by decide, br_one g]
  exact ⟨fun z => absurd (br_ne g (Tn.T3.tm Tn.T3) z) (by decide), rfl⟩
theorem glue_pair {mid : List P2} {ms : List Mk} (h : Fan mid ms) {i j : Nat} (hi : i ≤ mid.length) (hm : ms[i]? = some (.pair j)) : j ≤ mid.length ∧ ms[j]? = some (.pair i) ∧ (glueM mid ms i).tm (glueM mid ms j) = M4.one := by
  obtain ⟨n, fj, _, _⟩ := h.marks.fit i j hm
  have hj := (List.getElem?_eq_some_iff.mp fj).1
  have hl := h.len
  have g := (h.gapN hi).tn
  have g' := (h.gapN (i := j) (by omega)).tn
  refine ⟨by omega, fj, ?_⟩
  unfold glueM
  rw [hm, fj]
  dsimp only
  rw [br_mul g' g g' Tn.S Tn.S, show M4.S.tm M4.S = M4.one by decide, br_one g']
theorem glue_leads {mid : List P2} {ms : List Mk} (h : Fan mid ms) {i j : Nat} (hi : i ≤ mid.length) (hm : ms[i]? = some (.pair j)) : Leads (glueM mid ms i) (gx mid i).1 (gx mid i).2 (gy mid j).1 (gy mid j).2 ∧ Leads (glueM mid ms i) (gy mid i).1 (gy mid i).2 (gx mid j).1 (gx mid j).2 := by
  obtain ⟨n, fj, _, _⟩ := h.marks.fit i j hm
  have hj := (List.getElem?_eq_some_iff.mp fj).1
  have hl := h.len
  have g := h.gapN hi
  have g' := h.gapN (i := j) (by omega)
  obtain ⟨e, e1, en⟩ := M4.nrm_sm ((gm mid j).mul M4.S)
  have A := g.eq
  have B := g'.eq
  have hS : (gm mid j).tm M4.S = ⟨e * (ge mid j * (gy mid j).1), e * -(gx mid j).1, e * (ge mid j * (gy mid j).2), e * -(gx mid j).2⟩ := by
    unfold M4.tm
    rw [en, mulS, smul_a, B]
  have f10 : isF 1 0 := .inl ⟨rfl, rfl⟩
  have f01 : isF 0 1 := .inr ⟨by decide, by decide⟩
  have i1 := inv_leads (m := gm mid i) (p := 1) (q := 0) (s := (gx mid i).1) (t := (gx mid i).2) (g := 1) g.det f10 (by decide) (by rw [A]; unfold M4.up; simp) (by rw [A]; unfold M4.lo; simp)
  have i2 := inv_leads (m := gm mid i) (p := 0) (q := 1) (s := (gy mid i).1) (t := (gy mid i).2) (g := ge mid i) g.det f01 (by rcases g.one with z | z <;> rw [z] <;> decide) (by rw [A]; unfold M4.up; simp [Int.mul_comm]) (by rw [A]; unfold M4.lo; simp [Int.mul_comm])
  have l1 : Leads ((gm mid j).tm M4.S) 1 0 (gy mid j).1 (gy mid j).2 := by
    refine ⟨g'.f2, ?_⟩
    rw [hS]
    unfold M4.lo M4.up
    dsimp only
    grind
  have l2 : Leads ((gm mid j).tm M4.S) 0 1 (gx mid j).1 (gx mid j).2 := by
    refine ⟨g'.f1, ?_⟩
    rw [hS]
    unfold M4.lo M4.up
    dsimp only
    grind
  unfold glueM
  rw [hm]
  dsimp only
  unfold br
  refine ⟨tm_leads (g := (gm mid i).inv.up (gx mid i).1 (gx mid i).2) (s := 1) (t := 0) ?_ ?_ l1, tm_leads (g := (gm mid i).inv.lo (gy mid i).1 (gy mid i).2) (s := 0) (t := 1) ?_ ?_ l2⟩
  · rw [Int.one_mul]
  · have := i1.2
    rw [Int.zero_mul] at this ⊢
    omega
  · have := i2.2
    rw [Int.zero_mul] at this ⊢
    omega
  · rw [Int.one_mul]
end DL

set_option Elab.async false
set_option maxRecDepth 100000
set_option maxHeartbeats 4000000
namespace DL
open PySem PySem.Spec PyProof.Rows L2
/-! ### zip(a, b): two texts, two lists, two tuples -/
def Itzs (x y : Str) : It :=
  ⟨fun i _ => i < x.cps.size ∧ i < y.cps.size, fun i H v H' => ∃ T c d, v = .ref T ∧ H T = none ∧ H' = upd H T (.tup [.str ⟨#[c]⟩, .str ⟨#[d]⟩]) ∧ x.cps[i]? = some c ∧ y.cps[i]? = some d, fun i _ => x.cps.size ≤ i ∨ y.cps.size ≤ i⟩
theorem zsep {z TI TO i1 i2 : Addr} (a1 : TI ≠ z) (a2 : TO ≠ z) (a3 : i1 ≠ z) (a4 : i2 ≠ z) (a5 : TI ≠ TO) (a6 : TI ≠ i1) (a7 : TI ≠ i2) (a8 : TO ≠ i1) (a9 : TO ≠ i2) (a10 : i1 ≠ i2) : ZipSep2 z TI TO i1 i2 [i1] [i2] :=
  { TIz := a1, TOz := a2, TITO := a5, TIi1 := a6, mem1 := by simp, zf1 := by simp [Ne.symm a3], Tf1 := by simp [a8], TIi2 := a7, mem2 := by simp, zf2 := by simp [Ne.symm a4], Tf2 := by simp [a9], sep1_2 := by simp [a10], sep2_1 := by simp [Ne.symm a10] }
theorem turn_zipS {P : Program} {w : World} {K : PySem.W.Frag} {elts : List Expr} {kk : Nat} {tpos : PySem.Pos} {z TI TO i1 i2 : Addr} (x y : Str) (t1 t2 : Tok) (D : ZipSep2 z TI TO i1 i2 [i1] [i2]) (hi1z : i1 ≠ z) (hi2z : i2 ≠ z) :
    Turn P w K (.Tuple elts kk tpos) (Itzs x y) [z, TI, TO, i1, i2] z (fun i h => IsZip h z TI TO .none ∧ IsTupOf2 h TI (.ref i1) (.ref i2) ∧ (∃ a b, IsTupOf2 h TO a b) ∧ h.IsStrIter i1 (strIterType x) x t1 i ∧ h.IsStrIter i2 (strIterType y) y t2 i ∧ i ≤ x.cps.size ∧ i ≤ y.cps.size) where
  mem := by simp
  obj := fun i h st c hc => by
    obtain ⟨hz, hTI, ⟨x, y, hTO⟩, ⟨o1, e1, _, d1⟩, ⟨o2, e2, _, d2⟩, _⟩ := st
    have e' : c = z ∨ c = TI ∨ c = TO ∨ c = i1 ∨ c = i2 := by simpa using hc
    rcases e' with q | q | q | q | q
    · rw [q]; exact ⟨_, hz, fun v q => nomatch q⟩
    · rw [q]; exact ⟨_, hTI, fun v q => nomatch q⟩
    · rw [q]; exact ⟨_, hTO, fun v q => nomatch q⟩
    · rw [q]; exact ⟨o1, e1, fun v q => by rw [d1] at q; cases q⟩
    · rw [q]; exact ⟨o2, e2, fun v q => by rw [d2] at q; cases q⟩
  keep := fun i h h' st k => by
    obtain ⟨hz, hTI, ⟨x, y, hTO⟩, ⟨o1, q1, r1⟩, ⟨o2, q2, r2⟩, h3⟩ := st
    exact ⟨k z (by simp) _ hz, k TI (by simp) _ hTI, ⟨x, y, k TO (by simp) _ hTO⟩, ⟨o1, k i1 (by simp) _ q1, r1⟩, ⟨o2, k i2 (by simp) _ q2, r2⟩, h3⟩
  item := by
    intro X hP hw hK hc i pins s σ H E I hf st hg
    subst hP hw hK
    obtain ⟨hz, hTI, ⟨x0, y0, hTO⟩, h1, h2, l1, l2⟩ := st
    obtain ⟨g1, g2⟩ := hg
    have hzl : z < s.heap.objs.size := Heap.lt_size hz
    refine wpAny_pyNext_zipD2_item D (Draws.text (A := X.A.in1) (I.ok.hd hc) i1 x t1) (Draws.text (A := X.A.in1) (I.ok.hd hc) i2 y t2) hz hTI hTO h1 h2 g1 g2 fun x1 x2 h' tk p1 p2 z' TO' h1' h2' hT hsz hk => ?_
    obtain ⟨c, u, hc1, rfl⟩ := p1
    obtain ⟨d, u', hd1, rfl⟩ := p2
    refine ⟨_, rfl, wpAny_letOwnedTupleGo_zip (s := { s with heap := h', toks := tk }) z' fun h'' z'' sb => ?_⟩
    have hT2 : h''.get? s.heap.objs.size = some { cls := .type "tuple", data := .seq #[.str ⟨#[c]⟩ u, .str ⟨#[d]⟩ u'] } := (sb.2 _ (Nat.ne_of_gt hzl)).trans hT
    have new : ObjOk X.prog X.w (upd H s.heap.objs.size (.tup [.str ⟨#[c]⟩, .str ⟨#[d]⟩])) h'' s.heap.objs.size (.tup [.str ⟨#[c]⟩, .str ⟨#[d]⟩]) :=
      ⟨by show 2 ≤ sizeLine; decide, [.str ⟨#[c]⟩ u, .str ⟨#[d]⟩ u'], .cons ⟨_, rfl⟩ (.cons ⟨_, rfl⟩ .nil), ⟨_, hT2, rfl, _, rfl⟩⟩
    have I1 : Inv X pins σ (upd H s.heap.objs.size (.tup [.str ⟨#[c]⟩, .str ⟨#[d]⟩])) { s with heap := h'', toks := tk } :=
      I.turnedNew (t' := tk) (ch := [z, TI, TO, i1, i2]) (fun c o hb q => (sb.2 c (fun q' => hb (by simp [q']))).trans (hk c o (fun q' => hb (by simp [q'])) (fun q' => hb (by simp [q'])) (fun q' => hb (by simp [q'])) (fun q' => hb (by simp [q'])) q)) hf (Nat.le_refl _) new
    refine ⟨.ref s.heap.objs.size, _, I1, rfl, ⟨_, c, d, rfl, I.hok.fresh (Nat.le_refl _), rfl, hc1, hd1⟩, ⟨z'', ?_, ⟨.str ⟨#[c]⟩ u, .str ⟨#[d]⟩ u', ?_⟩, ?_, ?_, g1, g2⟩, fun c hcm => ?_⟩
    · exact (sb.2 _ D.TIz).trans (hk _ _ D.TIz D.TITO D.TIi1 D.TIi2 hTI)
    · exact (sb.2 _ D.TOz).trans TO'
    · obtain ⟨o, q, r⟩ := h1'
      exact ⟨o, (sb.2 _ hi1z).trans q, r⟩
    · obtain ⟨o, q, r⟩ := h2'
      exact ⟨o, (sb.2 _ hi2z).trans q, r⟩
    · have hlt : c < s.heap.objs.size := by
        have e' : c = z ∨ c = TI ∨ c = TO ∨ c = i1 ∨ c = i2 := by simpa using hcm
        rcases e' with q | q | q | q | q
        · rw [q]; exact hzl
        · rw [q]; exact Heap.lt_size hTI
        · rw [q]; exact Heap.lt_size hTO
        · rw [q]; obtain ⟨_, e1, _⟩ := h1; exact Heap.lt_size e1
        · rw [q]; obtain ⟨_, e2, _⟩ := h2; exact Heap.lt_size e2
      rw [upd_ne (Nat.ne_of_lt hlt)]
      exact (hf c hcm).1
  done := by
    intro X hP hw hK hc i pins s σ H E I hf st hg
    subst hP hw hK
    obtain ⟨hz, hTI, ⟨x0, y0, hTO⟩, h1, h2, l1, l2⟩ := st
    refine wpAny_pyNext_zipD2_end D (Draws.text (A := X.A.in1) (I.ok.hd hc) i1 x t1) (Draws.text (A := X.A.in1) (I.ok.hd hc) i2 y t2) hz hTI hTO h1 h2 l1 l2 ?_ fun h' tk hk => ⟨rfl, I.turnedL (t' := tk) (ch := [z, TI, TO, i1, i2]) (fun c o hb q =>
      hk c o (fun q' => hb (by simp [q'])) (fun q' => hb (by simp [q'])) (fun q' => hb (by simp [q'])) (fun q' => hb (by simp [q'])) q) hf⟩
    rcases hg with q | q
    · exact .inl (by omega)
    · exact .inr (by omega)
  self := fun A i s Q E st h => wpAny_pyIter_zip st.1 h
theorem ne0 (N : Nat) : (N ≠ N + 4) ∧ (N + 1 ≠ N + 4) := by omega
def iZipX (K : PySem.W.Frag) (ta : TA) : TI := fun σ H R => ta σ H fun vs H1 => (∃ x y, vs = [.str x, .str y] ∧ R (Itzs x y) H1) ∨ ∃ a b xs ys, vs = [.ref a, .ref b] ∧ ((SqL K H1 a xs ∧ SqL K H1 b ys ∧ R (Itz K a b) H1) ∨ (SqT K H1 a xs ∧ SqT K H1 b ys ∧ R (RZ.ItzT K a b) H1))
theorem pi_zipX {X : Cx} {e e2 : Expr} {ta : TA} {p pos tpos : PySem.Pos} {elts : List Expr} {kk : Nat} (hg : Gl X "zip") (hm : X.mg "zip" = none) (ha : PA X [e, e2] ta)
    (hs : starEach [e, e2] X.env = (false, eval e X.env) :: starEach [e2] X.env) (hpl : (backTo pos (starEach [e2] X.env)).any (·.1) = false) :
    PI X (.Tuple elts kk tpos) (.Call (.Name "zip" p) [e, e2] [] pos) (iZipX X.K ta) := by
  refine ⟨fun pins s σ H R I h => ?_⟩
  refine Call_ (ld_blt I hg hm PyProof.Rows.boot_zip (PyProof.Rows.callWith_type1 (thn (ha.run pos pins s σ H _ I h) fun us s1 ⟨vs, H1, I1, r1, q1⟩ => ?_) hs hpl))
  have fresh5 : ∀ c, c ∈ [s1.heap.objs.size + 4, s1.heap.objs.size + 2, s1.heap.objs.size + 3, s1.heap.objs.size, s1.heap.objs.size + 1] → FpOk X pins H1 c := fun c hcm => by
    have e' : c = s1.heap.objs.size + 4 ∨ c = s1.heap.objs.size + 2 ∨ c = s1.heap.objs.size + 3 ∨ c = s1.heap.objs.size ∨ c = s1.heap.objs.size + 1 := by simpa using hcm
    have hle : s1.heap.objs.size ≤ c := by
      rcases e' with z | z | z | z | z
      · rw [z]; exact Nat.le_add_right _ _
      · rw [z]; exact Nat.le_add_right _ _
      · rw [z]; exact Nat.le_add_right _ _
      · rw [z]; exact Nat.le_refl _
      · rw [z]; exact Nat.le_add_right _ _
    exact I1.fpOk hle (I1.hok.fresh hle)
  rcases q1 with ⟨x, y, ex, q⟩ | ⟨a, b, xs, ys, ex, q1⟩
  · subst ex
    cases r1 with
    | cons r rr =>
      cases rr with
      | cons r' rr =>
        cases rr
        obtain ⟨t1, rfl⟩ := r
        obtain ⟨t2, rfl⟩ := r'
        refine zip_begins2 (begins_text x t1) (begins_text y t2) trivial trivial fun h' hz hTI hTO g1 g2 hsz hk => wpAny_pyIter_zip hz ?_
        have I2 : Inv X pins σ H1 { s1 with heap := h' } := I1.kept (t' := s1.toks) hk
        exact ⟨s1.heap.objs.size + 4, [s1.heap.objs.size + 4, s1.heap.objs.size + 2, s1.heap.objs.size + 3, s1.heap.objs.size, s1.heap.objs.size + 1], _, _, H1, rfl, I2,
          turn_zipS x y t1 t2 (zip_sep2 (N := s1.heap.objs.size) (fp1 := []) (fp2 := []) (by simp) (by simp)) (ne0 s1.heap.objs.size).1 (ne0 s1.heap.objs.size).2,
          ⟨hz, hTI, ⟨_, _, hTO⟩, ⟨_, g1, rfl, rfl⟩, ⟨_, g2, rfl, rfl⟩, Nat.zero_le _, Nat.zero_le _⟩, fresh5, q⟩
  · subst ex
    cases r1 with
    | cons r rr =>
      cases rr with
      | cons r' rr =>
        cases rr
        cases r
        cases r'
        rcases q1 with ⟨hqx, hqy, q⟩ | ⟨hqx, hqy, q⟩
        · obtain ⟨its, rv, p1, _⟩ := I1.list hqx
          obtain ⟨its2, rv2, p2, _⟩ := I1.list hqy
          refine call_zip_2 p1.isList p2.isList fun h' hz hTI hTO h1 h2 hsz hk => wpAny_pyIter_zip hz ?_
          have I2 : Inv X pins σ H1 { s1 with heap := h' } := I1.kept (t' := s1.toks) hk
          exact ⟨s1.heap.objs.size + 4, [s1.heap.objs.size + 4, s1.heap.objs.size + 2, s1.heap.objs.size + 3, s1.heap.objs.size, s1.heap.objs.size + 1], _, _, H1, rfl, I2, turn_zip (PySem.W.ktu_apart s1.heap.objs.size a b p1.lt p2.lt), ⟨hz, hTI, ⟨_, _, hTO⟩, h1, h2⟩, fresh5, q⟩
        · obtain ⟨its, rv, p1, _⟩ := I1.tuple hqx
          obtain ⟨its2, rv2, p2, _⟩ := I1.tuple hqy
          obtain ⟨o1, ho1, _⟩ := id p1
          obtain ⟨o2, ho2, _⟩ := id p2
          refine RZ.call_zipT (show s1.heap.IsTuple a its.toArray from p1) (show s1.heap.IsTuple b its2.toArray from p2) fun h' hz hTI hTO h1 h2 hsz hk => wpAny_pyIter_zip hz ?_
          have I2 : Inv X pins σ H1 { s1 with heap := h' } := I1.kept (t' := s1.toks) hk
          exact ⟨s1.heap.objs.size + 4, [s1.heap.objs.size + 4, s1.heap.objs.size + 2, s1.heap.objs.size + 3, s1.heap.objs.size, s1.heap.objs.size + 1], _, _, H1, rfl, I2, RZ.turn_zipT (PySem.W.ktu_apart s1.heap.objs.size a b (Heap.lt_size ho1) (Heap.lt_size ho2)), ⟨hz, hTI, ⟨_, _, hTO⟩, h1, h2⟩, fresh5, q⟩
def zipL : List D → List D → List D
  | a :: as, b :: bs => .tuple [a, b] :: zipL as bs
  | _, _ => []
theorem zipL_len : ∀ (as bs : List D), (zipL as bs).length = min as.length bs.length
  | [], _ => by simp [zipL]
  | _ :: _, [] => by simp [zipL]
  | a :: as, b :: bs => by simp [zipL, zipL_len as bs, Nat.succ_min_succ]
theorem zipL_get : ∀ (as bs : List D) (i : Nat) (d : D), (zipL as bs)[i]? = some d → ∃ a b, as[i]? = some a ∧ bs[i]? = some b ∧ d = .tuple [a, b]
  | [], _, _, _, h => by simp [zipL] at h
  | _ :: _, [], _, _, h => by simp [zipL] at h
  | a :: as, b :: bs, 0, d, h => by
    simp [zipL] at h
    exact ⟨a, b, rfl, rfl, h.symm⟩
  | a :: as, b :: bs, i + 1, d, h => by
    rw [zipL, List.getElem?_cons_succ] at h
    obtain ⟨x, y, h1, h2, h3⟩ := zipL_get as bs i d h
    exact ⟨x, y, by rw [List.getElem?_cons_succ]; exact h1, by rw [List.getElem?_cons_succ]; exact h2, h3⟩
def zp2 : List D → Option (List D)
  | [.str x, .str y] => some (zipL (chars x) (chars y))
  | [.list x, .list y] => some (zipL x y)
  | [.tuple x, .tuple y] => some (zipL x y)
  | _ => none
def zpM (rs : List R) : M (List D) := M.bind (frzs rs) fun ds ρ => match zp2 ds with
  | some es => .ok es ρ
  | none => .bad
section
variable {K : PySem.W.Frag} {P O : List Addr} {H : Hp}
theorem fresh_pair {G : List Addr} {A : List V} {O1 : List Addr} {H1 : Hp} {σ : L2.St} {ρ : Rho} (e : EnvR K (G ++ P) A O1 H1 σ ρ) {T : Addr} (hT : H1 T = none) {x y : V} {dx dy : D} (rx : Rp K (wo (O1 ++ (G ++ P)) H1) x dx) (ry : Rp K (wo (O1 ++ (G ++ P)) H1) y dy) :
    (∀ a o, H1 a = some o → upd H1 T (.tup [x, y]) a = some o) ∧ Rp K (wo (O1 ++ (G ++ P)) (upd H1 T (.tup [x, y]))) (.ref T) (.tuple [dx, dy]) := by
  have ext : ∀ b o, H1 b = some o → upd H1 T (.tup [x, y]) b = some o := fun b o q => by
    rw [upd_ne (fun z => by rw [z, hT] at q; cases q)]
    exact q
  refine ⟨ext, ?_⟩
  have nT : T ∉ O1 ++ (G ++ P) := fun z => by
    rcases List.mem_append.mp z with z | z
    · obtain ⟨o, ho⟩ := e.trk T z
      rw [hT] at ho
      cases ho
    · obtain ⟨_, o, ho⟩ := e.prot T z
      rw [hT] at ho
      cases ho
  have ew : ∀ b o, wo (O1 ++ (G ++ P)) H1 b = some o → wo (O1 ++ (G ++ P)) (upd H1 T (.tup [x, y])) b = some o := fun b o q => by
    obtain ⟨q1, q2⟩ := wo_some.mp q
    exact wo_some.mpr ⟨q1, ext b o q2⟩
  exact .tup (.inl (.inl (wo_some.mpr ⟨nT, upd_same⟩))) (.cons (rx.mono ew) (.cons (ry.mono ew) .nil))
theorem itOk_zipL {a b : Addr} {xs ys : List V} {ds es : List D} (hP : ∀ b ∈ P, b ∉ O ∧ ∃ o, H b = some o) (h1 : SqL K (wo (O ++ P) H) a xs) (h2 : RpAll K (wo (O ++ P) H) xs ds) (h3 : SqL K (wo (O ++ P) H) b ys) (h4 : RpAll K (wo (O ++ P) H) ys es) : ItOk K P (Itz K a b) (zipL ds es) O H := by
  intro G A O1 H1 σ ρ hG e s i
  have m := s.woG hP hG
  have g1 : SqL K H1 a xs := sql_mono wo_sub (sql_mono m h1)
  have g3 : SqL K H1 b ys := sql_mono wo_sub (sql_mono m h3)
  refine ⟨fun d hd => ?_, fun hl => ⟨xs, ys, g1, g3, by rw [zipL_len] at hl; rw [h2.length, h4.length]; omega⟩⟩
  obtain ⟨d1, d2, hd1, hd2, rfl⟩ := zipL_get _ _ _ _ hd
  obtain ⟨v, hv, rv⟩ := h2.get hd1
  obtain ⟨v', hv', rv'⟩ := h4.get hd2
  exact ⟨⟨xs, ys, v, v', g1, g3, hv, hv'⟩, fun x H' y => by
    obtain ⟨T, w, w', rfl, hT, rfl, y, y'⟩ := y
    have z := y xs g1
    rw [hv] at z
    cases z
    have z' := y' ys g3
    rw [hv'] at z'
    cases z'
    exact fresh_pair e hT (rv.mono m) (rv'.mono m)⟩
theorem itOk_zipT {a b : Addr} {xs ys : List V} {ds es : List D} (hP : ∀ b ∈ P, b ∉ O ∧ ∃ o, H b = some o) (h1 : SqT K (wo (O ++ P) H) a xs) (h2 : RpAll K (wo (O ++ P) H) xs ds) (h3 : SqT K (wo (O ++ P) H) b ys) (h4 : RpAll K (wo (O ++ P) H) ys es) : ItOk K P (RZ.ItzT K a b) (zipL ds es) O H := by
  intro G A O1 H1 σ ρ hG e s i
  have m := s.woG hP hG
  have g1 : SqT K H1 a xs := sqt_mono wo_sub (sqt_mono m h1)
  have g3 : SqT K H1 b ys := sqt_mono wo_sub (sqt_mono m h3)
  refine ⟨fun d hd => ?_, fun hl => ⟨xs, ys, g1, g3, by rw [zipL_len] at hl; rw [h2.length, h4.length]; omega⟩⟩
  obtain ⟨d1, d2, hd1, hd2, rfl⟩ := zipL_get _ _ _ _ hd
  obtain ⟨v, hv, rv⟩ := h2.get hd1
  obtain ⟨v', hv', rv'⟩ := h4.get hd2
  exact ⟨⟨xs, ys, v, v', g1, g3, hv, hv'⟩, fun x H' y => by
    obtain ⟨T, w, w', rfl, hT, rfl, y, y'⟩ := y
    have z := y xs g1
    rw [hv] at z
    cases z
    have z' := y' ys g3
    rw [hv'] at z'
    cases z'
    exact fresh_pair e hT (rv.mono m) (rv'.mono m)⟩
theorem itOk_zipS {x y : Str} : ItOk K P (Itzs x y) (zipL (chars x) (chars y)) O H := by
  intro G A O1 H1 σ ρ hG e s i
  have lx : (chars x).length = x.cps.size := by simp [chars]
  have ly : (chars y).length = y.cps.size := by simp [chars]
  refine ⟨fun d hd => ?_, fun hl => ?_⟩
  · obtain ⟨d1, d2, hd1, hd2, rfl⟩ := zipL_get _ _ _ _ hd
    have g1 := (List.getElem?_eq_some_iff.mp hd1).1
    have g2 := (List.getElem?_eq_some_iff.mp hd2).1
    rw [lx] at g1
    rw [ly] at g2
    refine ⟨⟨g1, g2⟩, fun v H' q => ?_⟩
    obtain ⟨T, c, d, rfl, hT, rfl, hc, hd⟩ := q
    have e1 : d1 = .str ⟨#[c]⟩ := by
      have : (chars x)[i]? = some (.str ⟨#[c]⟩) := by
        unfold chars
        rw [List.getElem?_map, show x.cps.toList[i]? = some c by simpa using hc]
        rfl
      rw [this] at hd1
      exact (Option.some.inj hd1).symm
    have e2 : d2 = .str ⟨#[d]⟩ := by
      have : (chars y)[i]? = some (.str ⟨#[d]⟩) := by
        unfold chars
        rw [List.getElem?_map, show y.cps.toList[i]? = some d by simpa using hd]
        rfl
      rw [this] at hd2
      exact (Option.some.inj hd2).symm
    subst e1 e2
    exact fresh_pair e hT (.str _) (.str _)
  · rw [zipL_len, lx, ly] at hl
    show x.cps.size ≤ i ∨ y.cps.size ≤ i
    omega
end
section
variable {X : Cx} {W : WX} {e e2 : Expr} {pos tpos : PySem.Pos} {ms : M (List R)} {elts : List Expr} {kk : Nat}
theorem ji_zip {p : PySem.Pos} (hg : Gl X "zip") (hm : X.mg "zip" = none) (ha : JEs X W [e, e2] ms) (hs : starEach [e, e2] X.env = (false, eval e X.env) :: starEach [e2] X.env) (hpl : (backTo pos (starEach [e2] X.env)).any (·.1) = false) : JI X W (.Tuple elts kk tpos) (.Call (.Name "zip" p) [e, e2] [] pos) (M.bind ms zpM) :=
  (pi_zipX hg hm ha hs hpl).imp fun σ H R h => by
    obtain ⟨P, A, O, ρ, e, h⟩ := h
    refine ⟨P, A, O, ρ, e, (Aft.bind (rl := relRs X.K σ) h).mono ?_⟩
    rintro vs H1 ⟨O1, ρ1, rs, F, e1, r1, s1, h1⟩
    unfold zpM at h1
    obtain ⟨O2, ρ2, ds, e2, s2, p2, h2⟩ := Aft.frzs e1 r1 (h1.step s1.less)
    cases q : zp2 ds with
    | none =>
      simp only [q] at h2
      exact h2.elim
    | some es =>
      simp only [q] at h2
      have fin : ∀ J, ItOk X.K P J es O2 H1 → R J H1 := fun J hJ => h2 J H1 O2 [] e2 ⟨rfl, hJ⟩ (Step.refl _ _)
      unfold zp2 at q
      split at q
      · cases q
        cases p2 with
        | cons a b =>
          cases b with
          | cons a' b =>
            cases b
            cases a
            cases a'
            exact .inl ⟨_, _, rfl, fin _ itOk_zipS⟩
      · cases q
        cases p2 with
        | cons a b =>
          cases b with
          | cons a' b =>
            cases b
            cases a with
            | @lst p xs _ g1 g2 =>
              cases a' with
              | @lst p' ys _ g3 g4 => exact .inr ⟨p, p', xs, ys, rfl, .inl ⟨sql_mono wo_sub g1, sql_mono wo_sub g3, fin _ (itOk_zipL e2.prot g1 g2 g3 g4)⟩⟩
      · cases q
        cases p2 with
        | cons a b =>
          cases b with
          | cons a' b =>
            cases b
            cases a with
            | @tup p xs _ g1 g2 =>
              cases a' with
              | @tup p' ys _ g3 g4 => exact .inr ⟨p, p', xs, ys, rfl, .inr ⟨sqt_mono wo_sub g1, sqt_mono wo_sub g3, fin _ (itOk_zipT e2.prot g1 g2 g3 g4)⟩⟩
      · cases q
abbrev itZ (ms : M (List R)) : M (List D) := M.bind ms zpM
end
@[simp] theorem zpM_ap (rs : List R) (ρ : Rho) : zpM rs ρ = (frzs rs ρ).bnd fun ds ρ' => itO ρ' (zp2 ds) := by
  show (frzs rs ρ).bnd _ = _
  congr 1
@[simp] theorem zp2_t (a b : List D) : zp2 [.tuple a, .tuple b] = some (zipL a b) := (rfl)
@[simp] theorem zp2_l (a b : List D) : zp2 [.list a, .list b] = some (zipL a b) := (rfl)
@[simp] theorem zp2_s (a b : Str) : zp2 [.str a, .str b] = some (zipL (chars a) (chars b)) := (rfl)
end DL

set_option Elab.async false
set_option maxRecDepth 100000
set_option maxHeartbeats 4000000
namespace DL
open PySem PySem.Spec PyProof.Rows L2 HT
/-! ### a tuple from behind -/
section
variable {prog : Program} {w : World} {A : Around} {E : Value → Shared → Prop} {s : Shared}
theorem sliceApplied_rev {sl : Addr} {u : Tok} {n : Nat} {Q : Int × Int × Nat → Shared → Prop} (hs : s.heap.IsSliceOf sl .none .none (.int (-1) u)) (h : Q ((n : Int) - 1, -1, n) s) : wpAny (model prog w) A (Builtin.Slice.sliceApplied (.ref sl) (pure (n : Int))) Q E s := by
  obtain ⟨os, hos, hcs, hds⟩ := id hs
  unfold Builtin.Slice.sliceApplied Builtin.Slice.sliceFields
  refine wpAny_bind (wpAny_bind (wpAny_field hos hds (x := .none) rfl (wpAny_bind (wpAny_field hos hds (x := .none) rfl (wpAny_bind (wpAny_field hos hds (x := .int (-1) u) rfl (wpAny_pure ?_)))))))
  refine wpAny_bind (slicePart_int ?_)
  show wpAny _ _ (if ((-1 : Int) == 0) = true then _ else _) _ _ s
  rw [if_neg (by decide)]
  refine wpAny_bind (slicePart_none (wpAny_bind (slicePart_none (wpAny_bind (wpAny_pure ?_)))))
  show wpAny _ _ (match Builtin.Slice.sliceAdjust none none (-1) (n : Int) with | (lo, hi) => pure (lo, (-1 : Int), Builtin.Slice.slicePlaces lo hi (-1))) _ _ s
  have e1 : Builtin.Slice.sliceAdjust none none (-1) (n : Int) = ((n : Int) - 1, -1) := by
    unfold Builtin.Slice.sliceAdjust
    simp
  have e2 : Builtin.Slice.slicePlaces ((n : Int) - 1) (-1) (-1) = n := by
    unfold Builtin.Slice.slicePlaces
    have h1 : ¬ ((-1 : Int) > 0) := by decide
    simp only [h1, if_false]
    by_cases hn : n = 0
    · subst hn
      rfl
    · have : (-1 : Int) < (n : Int) - 1 := by omega
      simp only [this, if_true]
      rw [show (- -1 : Int) = 1 by decide, Int.ediv_one]
      omega
  rw [e1]
  show wpAny _ _ (pure ((n : Int) - 1, (-1 : Int), Builtin.Slice.slicePlaces ((n : Int) - 1) (-1) (-1))) _ _ s
  rw [e2]
  exact wpAny_pure h
theorem fm_map {α β : Type} {f : α → Option β} {g : α → β} : ∀ {l : List α}, (∀ m ∈ l, f m = some (g m)) → l.filterMap f = l.map g
  | [], _ => rfl
  | a :: l, h => by
    rw [List.filterMap_cons, h a List.mem_cons_self, List.map_cons, fm_map fun m hm => h m (List.mem_cons_of_mem _ hm)]
theorem pick_rev (xs : Array Value) : ((List.range xs.size).filterMap fun (m : Nat) => xs[(((xs.size : Int) - 1) + (m : Int) * -1).toNat]?).toArray = xs.toList.reverse.toArray := by
  congr 1
  apply List.ext_getElem?
  intro i
  have key : (List.range xs.size).filterMap (fun (m : Nat) => xs[(((xs.size : Int) - 1) + (m : Int) * -1).toNat]?) = (List.range xs.size).map fun m => xs.getD (xs.size - 1 - m) .none := by
    refine fm_map fun m hm => ?_
    have hm := List.mem_range.mp hm
    have : (((xs.size : Int) - 1) + (m : Int) * -1).toNat = xs.size - 1 - m := by omega
    rw [this]
    have hlt : xs.size - 1 - m < xs.size := by omega
    simp [hlt]
  rw [key]
  by_cases hi : i < xs.size
  · have hlt : xs.size - 1 - i < xs.size := by omega
    rw [List.getElem?_map, List.getElem?_range hi]
    rw [List.getElem?_reverse (by simpa using hi)]
    simp [hlt]
  · rw [List.getElem?_eq_none (by simp; omega), List.getElem?_eq_none (by simp; omega)]
theorem getItem_tuple_rev {t sl : Addr} {items : Array Value} {u : Tok} {Q : Value → Shared → Prop} (ht : IsTup s.heap t items) (hs : s.heap.IsSliceOf sl .none .none (.int (-1) u))
    (h : Q (.ref s.heap.objs.size) { s with heap := s.heap.push { cls := .type "tuple", data := .seq items.toList.reverse.toArray } }) (hsz : items.size ≤ sizeLine) : wpAny (model prog w) A (getItem (.ref t) (.ref sl)) Q E s := by
  have htake : sizeOk (.seq items.toList.reverse.toArray) := by
    show items.toList.reverse.toArray.size ≤ sizeLine
    rw [List.size_toArray, List.length_reverse, Array.length_toList]
    exact hsz
  obtain ⟨os, hos, hcs, hds⟩ := id hs
  have hTs : s.TypeIs (.ref sl) "slice" := ⟨os, hos, hcs⟩
  unfold getItem
  try with_reducible refine wpAny_holding ?_
  first | refine wpAny_bind (wpAny_pure ?_) | skip
  refine wpAny_bind (wpAny_sequenceKey ht.typeIs (by decide) ?_)
  refine wpAny_bind (wpAny_callSpecial?_slot (name := Str.ofString "__getitem__") ht.typeIs PyProof.Rows.slot_tuple_getitem
    (wpAny_call_entry PyProof.Rows.slot_tuple_getitem ht.typeIs entry_tuple_getitem ?_ (args_tuple_getitem _ _)))
  show wpAny _ _ (Builtin.Tuple.tupleItemsOf (.ref t) >>= _) _ _ s
  refine wpAny_bind (tupleItemsOf_ ht ?_)
  refine wpAny_bind (wpAny_typeOf hTs ?_)
  rw [if_pos (by decide)]
  refine wpAny_bind (sliceApplied_rev hs ?_)
  have hno : ¬ ((((items.size : Int) - 1) == 0 && (-1 : Int) == 1 && items.size == items.size) = true) := by simp
  show wpAny _ _ (if ((((items.size : Int) - 1) == 0 && (-1 : Int) == 1 && items.size == items.size)) = true then _ else _) _ _ s
  rw [if_neg hno, pick_rev]
  first
    | exact wpAny_bind (m := Builtin.Tuple.tupleExact _) (wpAny_newObj_type (wpAny_pure ⟨_, rfl, wpAny_pure h⟩) htake)
    | exact wpAny_bind (m := Builtin.Tuple.tupleExact _) (wpAny_newObj_type (wpAny_bind (wpAny_pure (wpAny_pure ⟨_, rfl, wpAny_pure h⟩))) htake)
    | exact wpAny_bind (wpAny_bind (m := Builtin.Tuple.tupleExact _) (wpAny_newObj_type (wpAny_pure (wpAny_pure ⟨_, rfl, wpAny_pure h⟩)) htake))
    | exact wpAny_bind (wpAny_bind (m := Builtin.Tuple.tupleExact _) (wpAny_newObj_type (wpAny_pure ⟨_, rfl, wpAny_pure h⟩) htake))
end
theorem vals_rev' : ∀ {xs : List V} {its : List Value}, Vals xs its → Vals xs.reverse its.reverse
  | _, _, .nil => .nil
  | x :: xs, i :: its, .cons a b => by
    rw [List.reverse_cons, List.reverse_cons]
    have ih := vals_rev' b
    generalize xs.reverse = ys at ih
    generalize its.reverse = js at ih
    clear b
    induction ih with
    | nil => exact .cons a .nil
    | cons p q ih => exact .cons p ih
def fRevA : D → Option T
  | .str z => if z.length ≤ sizeLine then some (.val (.str ⟨z.cps.toList.reverse.toArray⟩)) else none
  | .tuple ds => some (.val (.tuple ds.reverse))
  | _ => none
def revA (r : R) : M R := fun ρ => match look r ρ with
  | some d => (match fRevA d with
    | some t => .ok (.tmp t) ρ
    | none => .bad)
  | none => .bad
theorem pe_revA {X : Cx} {e st : Expr} {te ts : TE} {pos p2 : PySem.Pos} (he : PE X e te) (hs : PE X st ts) : PE X (.Subscript e (.Slice none none (some st) p2) pos) (fun σ H Q => te σ H fun x H1 => ts σ H1 fun y H2 => y = .int (-1) ∧ ((∃ z : Str, x = .str z ∧ z.length ≤ sizeLine ∧ Q (.str ⟨z.cps.toList.reverse.toArray⟩) H2) ∨
    ∃ a xs, x = .ref a ∧ SqT X.K H2 a xs ∧ ∀ p, H2 p = none → Q (.ref p) (upd H2 p (.tup xs.reverse)))) := by
  refine ⟨fun pins s σ H Q I h => ?_⟩
  refine Subscript_ (thn (he.run pins s σ H _ I h) fun v s1 ⟨x, H1, I1, r1, q1⟩ => ?_)
  refine wpAny_Slice ?_
  rw [evalPart_none]
  refine wpAny_pure (wpAny_pure ?_)
  rw [evalPart_some]
  refine thn (hs.run pins s1 σ H1 _ I1 q1) fun vs s3 ⟨y, H3, I3, rs, q3⟩ => ?_
  obtain ⟨rfl, q3⟩ := q3
  obtain ⟨uk, rfl⟩ := rs
  have I4 : Inv X pins σ H3 { s3 with heap := s3.heap.push { cls := .type "slice", data := .fields #[.none, .none, .int (-1) uk] } } := I3.kept (t' := s3.toks) fun b ob q => Heap.get?_push_of_some _ q
  rcases q3 with ⟨z, rfl, hz, q⟩ | ⟨a, xs, rfl, hx, q⟩
  · obtain ⟨t, rfl⟩ := r1
    have hg : wpAny (model X.prog X.w) X.A (getItem (.str z t) (.ref s3.heap.objs.size)) (EP X pins σ Q) X.xe { s3 with heap := s3.heap.push { cls := .type "slice", data := .fields #[.none, .none, .int (-1) uk] } } := by
      refine wpAny_getItem_str_slice (l := none) (u := none) (st := some (-1, uk)) ⟨_, Heap.get?_push_size _ rfl, rfl, rfl⟩ rfl ?_
      refine post_val_or_str ⟨Nat.le_trans (Txt.sliceBy_le z none none (-1, uk) (show (-1 : Int) ≠ 0 by decide)) hz, fun t' c => ?_⟩
      refine ⟨.str _, H3, I4.tok c, ⟨t', rfl⟩, ?_⟩
      have := rev_eq z uk
      rw [← this] at q
      exact q
    exact tail_any (ops := [.ref s3.heap.objs.size, .str z t]) (typeIs_str _ _ _) PySem.F.slot_str_getitem.lookup hg (by with_unfolding_all rfl)
  · cases r1
    obtain ⟨its, r, ht, hz⟩ := I4.tuple hx
    have hlen : its.toArray.size = xs.length := by rw [List.size_toArray]; exact r.length.symm
    refine tail_any (ops := [.ref a, .ref s3.heap.objs.size]) ht.typeIs PyProof.Rows.slot_tuple_getitem.lookup ?_ (by with_unfolding_all rfl)
    refine getItem_tuple_rev (u := uk) ht ⟨_, Heap.get?_push_size _ rfl, rfl, rfl⟩ ?_ (by rw [hlen]; exact hz)
    refine ⟨.ref _, _, I4.laid (t' := s3.toks) (o := .tup xs.reverse) (fun b ob q => Heap.get?_push_of_some _ q) (Nat.le_refl _) ?_, rfl, q _ (I4.hok.fresh (Nat.le_refl _))⟩
    exact ⟨by rw [List.length_reverse]; exact hz, _, vals_rev' r, IsTup.new _ _⟩
theorem RpAll.rev {K : PySem.W.Frag} {H : Hp} : ∀ {vs : List V} {ds : List D}, RpAll K H vs ds → RpAll K H vs.reverse ds.reverse
  | _, _, .nil => .nil
  | v :: vs, d :: ds, .cons a b => by
    rw [List.reverse_cons, List.reverse_cons]
    exact (RpAll.rev b).append (.cons a .nil)
theorem j_revA {X : Cx} {W : WX} {e : Expr} {me : M R} {pos p2 : PySem.Pos} (he : JE X W e me) {st : Expr} (hs : PE X st (tC (.int (-1)))) : JE X W (.Subscript e (.Slice none none (some st) p2) pos) (M.bind me revA) :=
  (pe_revA he hs).imp fun σ H Q h => by
    obtain ⟨P, A, O, ρ, e, h⟩ := h
    refine ⟨P, A, O, ρ, e, (Aft.bind (rl := relR X.K σ) h).mono ?_⟩
    rintro y H1 ⟨O1, ρ1, rb, F, e1, r1, s1, h1⟩
    unfold revA at h1
    split at h1
    · rename_i d q
      split at h1
      · rename_i t qt
        have vr := look_vr e1.less r1 q
        refine ⟨rfl, ?_⟩
        unfold fRevA at qt
        split at qt
        · rename_i z
          split at qt
          · rename_i hz
            cases qt
            cases vr.str
            exact .inl ⟨z, rfl, hz, (h1.step s1.less).tmp e1.less (NewT.scal (.str _))⟩
          · cases qt
        · cases qt
          obtain ⟨p, ws, rfl, h2, h3, _⟩ := vr.tuple
          exact .inr ⟨p, ws, rfl, h2, fun p' hp' => (h1.step s1.less).tmp e1.less (NewT.tup hp' (e1.less.fresh hp') (RpAll.rev h3))⟩
        · cases qt
      · exact h1.elim
    · exact h1.elim
@[simp] theorem revA_ap (r : R) (ρ : Rho) : revA r ρ = Out.ofT ((look r ρ).bind fRevA) ρ := by
  unfold revA
  cases look r ρ with
  | none => rfl
  | some d =>
    show (match fRevA d with | some t => Out.ok (R.tmp t) ρ | none => .bad) = Out.ofT (fRevA d) ρ
    cases fRevA d <;> rfl
@[simp] theorem fRevA_t (ds : List D) : fRevA (.tuple ds) = some (.val (.tuple ds.reverse)) := (rfl)
end DL

set_option Elab.async false
set_option maxRecDepth 100000
set_option maxHeartbeats 4000000
namespace DL
open PySem PySem.Spec PyProof.Rows L2
/-! ### what an except suite asks of an exception with fields -/
abbrev Gr (H H' : Hp) : Prop := ∀ a o, H a = some o → H' a = some o
abbrev GG := L2.St → Hp → Prop
def Stb (G : GG) : Prop := ∀ σ H H', G σ H → Gr H H' → G σ H'
abbrev JC (G : GG) (X : Cx) (e : Expr) (v : V) : Prop := PE X e (fun σ H Q => G σ H ∧ ∀ H', Gr H H' → Q v H')
abbrev JCT (G : GG) (X : Cx) (e : Expr) (b : Bool) : Prop := PT X e (fun σ H Q => G σ H ∧ ∀ H', Gr H H' → Q b H')
abbrev JCW (G : GG) (X : Cx) (e : Expr) (b : Bool) : Prop := PW X e (fun σ H Q => G σ H ∧ ∀ H', Gr H H' → Q b H')
section
variable {G : GG} {X : Cx} {a b e : Expr} {rest : List Expr} {pos : PySem.Pos} {ca cb : Bool}
theorem Gr.refl (H : Hp) : Gr H H := fun _ _ h => h
theorem Gr.trans {H H' H'' : Hp} (h : Gr H H') (h' : Gr H' H'') : Gr H H'' := fun a o z => h' a o (h a o z)
theorem jc_and (hS : Stb G) (ha : JC G X a (.bl ca)) (hb : JC G X (.BoolOp .And (b :: rest) pos) (.bl cb)) : JC G X (.BoolOp .And (a :: b :: rest) pos) (.bl (ca && cb)) := (pe_and ha hb).imp fun σ H Q ⟨g, h⟩ => ⟨g, fun H1 s1 => ⟨ca, rfl, by
  cases ca with
  | true => exact ⟨hS _ _ _ g s1, fun H2 s2 => h H2 (s1.trans s2)⟩
  | false => exact h H1 s1⟩⟩
theorem jc_or (hS : Stb G) (ha : JC G X a (.bl ca)) (hb : JC G X (.BoolOp .Or (b :: rest) pos) (.bl cb)) : JC G X (.BoolOp .Or (a :: b :: rest) pos) (.bl (ca || cb)) := (pe_or ha hb).imp fun σ H Q ⟨g, h⟩ => ⟨g, fun H1 s1 => ⟨ca, rfl, by
  cases ca with
  | true => exact h H1 s1
  | false => exact ⟨hS _ _ _ g s1, fun H2 s2 => h H2 (s1.trans s2)⟩⟩⟩
theorem jc_one {op} {v : V} (h : JC G X a v) : JC G X (.BoolOp op [a] pos) v := pe_one h
theorem jc_not (ha : JC G X a (.bl ca)) : JC G X (.UnaryOp .Not a pos) (.bl (!ca)) := (pe_not ha).imp fun σ H Q ⟨g, h⟩ => ⟨g, fun H1 s1 => ⟨ca, rfl, h H1 s1⟩⟩
theorem jct_val (ha : JC G X a (.bl ca)) (he : ∀ whole, isTrue a X.env whole = (do let v ← whole; standAt a.pos; holding [v] (truthy v))) : JCT G X a ca := (pt_val ha he).imp fun σ H Q ⟨g, h⟩ => ⟨g, fun H1 s1 => ⟨ca, rfl, h H1 s1⟩⟩
theorem jct_not (ha : JCT G X a ca) : JCT G X (.UnaryOp .Not a pos) (!ca) := (pt_not ha).imp fun σ H Q ⟨g, h⟩ => ⟨g, fun H1 s1 => h H1 s1⟩
theorem jcw_and1 (ha : JCT G X a ca) : JCW G X (.BoolOp .And [a] pos) ca := pw_and1 ha
theorem jcw_and (hS : Stb G) (ha : JCT G X a ca) (hb : JCW G X (.BoolOp .And (b :: rest) pos) cb) : JCW G X (.BoolOp .And (a :: b :: rest) pos) (ca && cb) := (pw_and ha hb).imp fun σ H Q ⟨g, h⟩ => ⟨g, fun H1 s1 => by
  cases ca with
  | true => exact ⟨hS _ _ _ g s1, fun H2 s2 => h H2 (s1.trans s2)⟩
  | false => exact h H1 s1⟩
theorem jc_var {i : Nat} {x : Str} {v : V} (hG : ∀ σ H, G σ H → σ[i]? = some (some v)) (hN : X.N[i]? = some x) (hv : Vis X.env.scope x) (hd : (x == ("__debug__" : Str)) = false) (hcd : (x == ("__classdict__" : Str)) = false) : JC G X (.Name x pos) v := (pe_var hN hv hd hcd).imp fun σ H Q ⟨g, h⟩ => ⟨v, hG σ H g, h H (Gr.refl H)⟩
end
/-! ### isinstance of an exception that has a dict -/
def rIsD (K : PySem.W.Frag) (D a dd : Addr) : List V → Hp → VK → Prop := fun xs H Q => (∃ fs, H dd = some (.xd fs)) ∧ ((∃ (c : V) (cv : Value) (b : Bool), xs = [.ref a, c] ∧ (∀ u, RelV c u → u = cv) ∧ PySem.W.kitOne K (.ref D) cv = some b ∧ Q (.bl b) H) ∨
  ∃ (tp : Addr) (cs : List V) (us : List Value) (b : Bool), xs = [.ref a, .ref tp] ∧ H tp = some (.tup cs) ∧ Paired ClsV cs us ∧ PySem.W.kitAny K (.ref D) us = some b ∧ Q (.bl b) H)
theorem call_isD {X : Cx} {a D dd : Addr} {oe : Obj} {pn : List (Addr × Obj)} (C : ExcC X.K D) (hz : Zc (.ref D) (some dd) oe) (hf : ∃ vs, oe.data = .fields vs) : CallR (X.suite a ((a, oe) :: pn)) (.builtin "isinstance") (rIsD X.K D a dd) := by
  intro pins s σ H xs us Q I r h
  obtain ⟨⟨fs, hdd⟩, h⟩ := h
  obtain ⟨hget, _⟩ := I.pin (a, oe) (List.mem_append.mpr (.inl List.mem_cons_self))
  obtain ⟨vs, hv⟩ := hf
  have hx : ObjOk X.prog X.w H s.heap dd (.xd fs) := I.hok dd _ hdd
  obtain ⟨mA, hns, hr⟩ := hx
  obtain ⟨od, ho, hl⟩ := lookIn_ns hns
  have J : PySem.W.InstAt s.heap a oe D (some od) := ⟨hget, hz.1, by unfold PySem.W.notCls; rw [hv] <;> rfl, by rw [hz.2]; exact ho⟩
  have hcl : (PySem.W.clsIn X.K D).isSome = true := by
    have := C.hd
    unfold PySem.W.hasDictIn at this
    cases hc : PySem.W.clsIn X.K D with
    | none => rw [hc] at this; cases this
    | some _ => rfl
  rcases h with ⟨c, cv, b, rfl, hcv, e, q⟩ | ⟨tp, cs, ws, b, rfl, hT, k, e, q⟩
  · cases r with
    | cons rx rr =>
      cases rr with
      | cons rt rr =>
        cases rr
        cases rx
        have ec := hcv _ rt
        subst ec
        exact PySem.W.kia_one (PySem.W.kitx_exc hcl C.hg C.hk C.hs C.ha C.hn C.ht C.hm) I.kIn J e (fun z => nomatch z) fun tk => ⟨.bl b, H, I.kept (t' := tk) fun _ _ z => z, rfl, q⟩
  · obtain ⟨u1, u2, rfl, r1, r2⟩ := vals2 r
    cases (show u1 = Value.ref a from r1)
    cases (show u2 = Value.ref tp from r2)
    obtain ⟨_, its, rv, o, h1, h2, n, h3⟩ := (show ObjOk X.prog X.w H s.heap tp (.tup cs) from I.hok tp _ hT)
    have e3 := ClsV.all k rv
    subst e3
    obtain ⟨oc, od, dt, sl⟩ := o
    simp only at h2 h3
    subst h2 h3
    exact PySem.W.kia_tup (PySem.W.kitx_exc hcl C.hg C.hk C.hs C.ha C.hn C.ht C.hm) I.kIn J h1 e (fun z => nomatch z) fun tk => ⟨.bl b, H, I.kept (t' := tk) fun _ _ z => z, rfl, q⟩
section
variable {G : GG} {X : Cx} {a D dd : Addr} {oe : Obj} {pn : List (Addr × Obj)} {i : Nat} {n T : Str} {p p2 p3 pos : PySem.Pos} {b : Bool}
theorem jc_isE {cv : Value} {c : V} (hG : ∀ σ H, G σ H → σ[i]? = some (some (.ref a)) ∧ ∃ fs, H dd = some (.xd fs)) (C : ExcC X.K D) (hz : Zc (.ref D) (some dd) oe) (hf : ∃ vs, oe.data = .fields vs) (hN : X.N[i]? = some n) (hv : Vis X.env.scope n) (hd : (n == ("__debug__" : Str)) = false) (hcd : (n == ("__classdict__" : Str)) = false)
    (hg : Gl X "isinstance") (hm : X.mg "isinstance" = none) (hT : ∀ Y : Cx, Y.env = X.env → Y.mg = X.mg → PE Y (.Name T p3) (tC c)) (hc : ClsV c cv) (hk : PySem.W.kitOne X.K (.ref D) cv = some b)
    (he : starEach [.Name n p2, .Name T p3] X.env = (false, eval (.Name n p2) X.env) :: starEach [.Name T p3] X.env) (he2 : starEach [.Name T p3] X.env = (false, eval (.Name T p3) X.env) :: starEach [] X.env) (hpl : (backTo pos (starEach [.Name T p3] X.env)).any (·.1) = false) :
    JC G (X.suite a ((a, oe) :: pn)) (.Call (.Name "isinstance" p) [.Name n p2, .Name T p3] [] pos) (.bl b) :=
  (pe_callB (X := X.suite a ((a, oe) :: pn)) (call_isD C hz hf) hg hm (by decide +kernel) (pa_cons (pe_var (i := i) hN hv hd hcd) (pa_cons (hT _ rfl rfl) pa_nil he2) he) (by decide) (by decide) he hpl).imp fun σ H Q ⟨g, h⟩ =>
    ⟨_, (hG σ H g).1, (hG σ H g).2, .inl ⟨c, cv, b, rfl, fun u r => hc.eq r, hk, h H (Gr.refl H)⟩⟩
theorem jc_isET {cs : List V} {us : List Value} {es : List Expr} {k : Nat} {tpos : PySem.Pos} (hG : ∀ σ H, G σ H → σ[i]? = some (some (.ref a)) ∧ ∃ fs, H dd = some (.xd fs)) (C : ExcC X.K D) (hz : Zc (.ref D) (some dd) oe) (hf : ∃ vs, oe.data = .fields vs) (hN : X.N[i]? = some n) (hv : Vis X.env.scope n) (hd : (n == ("__debug__" : Str)) = false) (hcd : (n == ("__classdict__" : Str)) = false)
    (hg : Gl X "isinstance") (hm : X.mg "isinstance" = none) (hT : ∀ Y : Cx, Y.env = X.env → Y.mg = X.mg → PA Y es (fun σ H Q => Q cs H)) (hl : cs.length ≤ 1000) (hc : Paired ClsV cs us) (hk : PySem.W.kitAny X.K (.ref D) us = some b)
    (he : starEach [.Name n p2, .Tuple es k tpos] X.env = (false, eval (.Name n p2) X.env) :: starEach [.Tuple es k tpos] X.env) (he2 : starEach [.Tuple es k tpos] X.env = (false, eval (.Tuple es k tpos) X.env) :: starEach [] X.env) (hpl : (backTo pos (starEach [.Tuple es k tpos] X.env)).any (·.1) = false) :
    JC G (X.suite a ((a, oe) :: pn)) (.Call (.Name "isinstance" p) [.Name n p2, .Tuple es k tpos] [] pos) (.bl b) :=
  (pe_callB (X := X.suite a ((a, oe) :: pn)) (call_isD C hz hf) hg hm (by decide +kernel) (pa_cons (pe_var (i := i) hN hv hd hcd) (pa_cons (pe_tup (hT _ rfl rfl)) pa_nil he2) he) (by decide) (by decide) he hpl).imp fun σ H Q ⟨g, h⟩ => by
    obtain ⟨g1, fs, g2⟩ := hG σ H g
    refine ⟨_, g1, Nat.le_trans hl (by rw [sizeLine_eq]; decide), fun t ht => ?_⟩
    have gr : Gr H (upd H t (.tup cs)) := upd_more ht
    exact ⟨⟨fs, gr _ _ g2⟩, .inr ⟨t, cs, us, b, rfl, upd_same, hc, hk, h _ gr⟩⟩
/-- e.f -/
theorem jc_fld {f : Str} {v : V} {fs : List (Str × V)} (hG : ∀ σ H, G σ H → σ[i]? = some (some (.ref a)) ∧ H dd = some (.xd fs)) (T : XfC X.K D) (hno : PySem.W.findIn X.K (.ref D) f = some none) (hz : Zc (.ref D) (some dd) oe) (hf : ∃ vs, oe.data = .fields vs) (hN : X.N[i]? = some n) (hv : Vis X.env.scope n) (hd : (n == ("__debug__" : Str)) = false) (hcd : (n == ("__classdict__" : Str)) = false) (hl : fs.lookup f = some v)
    (hb : attributeBase (.Name n p2) f X.env (eval (.Name n p2) X.env) = eval (.Name n p2) X.env) :
    JC G (X.suite a ((a, oe) :: pn)) (.Attribute (.Name n p2) f pos) v :=
  (pe_xf (X := X) (cls := .ref D) (d := some dd) T hno hz hf (pe_var (X := X.suite a ((a, oe) :: pn)) (i := i) hN hv hd hcd) hb).imp fun σ H Q ⟨g, h⟩ => by
    obtain ⟨g1, g2⟩ := hG σ H g
    exact ⟨_, g1, rfl, rfl, dd, fs, v, rfl, g2, hl, h H (Gr.refl H)⟩
end
end DL

set_option Elab.async false
set_option maxRecDepth 100000
set_option maxHeartbeats 4000000
namespace DL
open PySem PySem.Spec PyProof.Rows L2
/-! ### try .. except C as n, C's fields read -/
def Ga (i : Nat) (a dd : Addr) (fs : List (Str × V)) : GG := fun σ H => σ[i]? = some (some (.ref a)) ∧ H dd = some (.xd fs)
def Gb (i j : Nat) (a dd : Addr) (fs : List (Str × V)) (b : Bool) : GG := fun σ H => Ga i a dd fs σ H ∧ σ[j]? = some (some (.bl b))
theorem Ga.stb {i : Nat} {a dd : Addr} {fs : List (Str × V)} : Stb (Ga i a dd fs) := fun _ _ _ h g => ⟨h.1, g _ _ h.2⟩
theorem Gb.stb {i j : Nat} {a dd : Addr} {fs : List (Str × V)} {b : Bool} : Stb (Gb i j a dd fs b) := fun _ _ _ h g => ⟨⟨h.1.1, g _ _ h.1.2⟩, h.2⟩
theorem Ga.is {i : Nat} {a dd : Addr} {fs : List (Str × V)} : ∀ σ H, Ga i a dd fs σ H → σ[i]? = some (some (.ref a)) ∧ ∃ fs, H dd = some (.xd fs) := fun _ _ h => ⟨h.1, fs, h.2⟩
theorem Gb.is {i j : Nat} {a dd : Addr} {fs : List (Str × V)} {b : Bool} : ∀ σ H, Gb i j a dd fs b σ H → σ[i]? = some (some (.ref a)) ∧ ∃ fs, H dd = some (.xd fs) := fun _ _ h => ⟨h.1.1, fs, h.1.2⟩
theorem Gb.fl {i j : Nat} {a dd : Addr} {fs : List (Str × V)} {b : Bool} : ∀ σ H, Gb i j a dd fs b σ H → σ[i]? = some (some (.ref a)) ∧ H dd = some (.xd fs) := fun _ _ h => h.1
theorem Gb.at_ {i j : Nat} {a dd : Addr} {fs : List (Str × V)} {b : Bool} : ∀ σ H, Gb i j a dd fs b σ H → σ[j]? = some (some (.bl b)) := fun _ _ h => h.2
abbrev Suf (i j : Nat) (a dd : Addr) (fs : List (Str × V)) (v1 v2 : V) : TS := fun E σ H => Ga i a dd fs σ H ∧ j < σ.length ∧ ∀ H' p, Gr H H' → H' p = none → E.rt (.ref p) (upd H' p (.lst [v1, v2]))
theorem suite3 {X : Cx} {i j : Nat} {a dd : Addr} {fs : List (Str × V)} {x : Str} {e1 e2 c r1 r2 : Expr} {p1 p2 q1 q2 q3 q4 lp : PySem.Pos} {b1 b2 : Bool} {v1 v2 : V} (hij : i ≠ j) (hN : X.N.Nodup) (hj : X.N[j]? = some x) (hx : Loc X.env.scope x) (hf : X.fn x = true ∨ X.env.scope.names.lookup x = some .local)
    (h1 : JC (Ga i a dd fs) X e1 (.bl b1)) (w1 : swapsWith e1 (some (.Name x p1)) q1.line X.env = pure false) (h2 : JC (Gb i j a dd fs b1) X e2 (.bl b2)) (w2 : swapsWith e2 (some (.Name x p2)) q2.line X.env = pure false)
    {cc : Bool} (h3 : JCT (Gb i j a dd fs b2) X c cc) (hcc : cc = true) (l1 : JC (Gb i j a dd fs b2) X r1 v1) (l2 : JC (Gb i j a dd fs b2) X r2 v2) (s1 : starEach [r1, r2] X.env = (false, eval r1 X.env) :: starEach [r2] X.env) (s2 : starEach [r2] X.env = (false, eval r2 X.env) :: starEach [] X.env) :
    PSs X [.Assign [.Name x p1] e1 q1, .Assign [.Name x p2] e2 q2, .If c [.Return (some (.List [r1, r2] lp)) q3] [] q4] (Suf i j a dd fs v1 v2) :=
  (pss_cons (ps_set hN hj hx h1 w1 hf) (pss_cons (ps_set hN hj hx h2 w2 hf) (pss_one (ps_if h3 (pss_one (ps_ret (pe_lst (pa_cons l1 (pa_cons l2 pa_nil s2) s1)))) pss_nil)))).imp fun D σ H h => by
    obtain ⟨g, hl, h⟩ := h
    have st : ∀ {σ' : L2.St} {H' : Hp} {b : Bool} {w : Option V}, σ' = σ.set j w → Gr H H' → Ga i a dd fs σ' H' := fun {σ' H' b w} es gr => by
      subst es
      exact ⟨by rw [List.getElem?_set_ne (Ne.symm hij)]; exact g.1, gr _ _ g.2⟩
    refine ⟨g, fun H1 r1' => ?_⟩
    refine ⟨⟨st (b := b1) rfl r1', by rw [List.getElem?_set_self hl]⟩, fun H2 r2' => ?_⟩
    have e2' : (σ.set j (some (.bl b1))).set j (some (.bl b2)) = σ.set j (some (.bl b2)) := List.set_set ..
    have G2 : ∀ H', Gr H H' → Gb i j a dd fs b2 ((σ.set j (some (.bl b1))).set j (some (.bl b2))) H' := fun H' gr => by
      rw [e2']
      exact ⟨st (b := b2) rfl gr, by rw [List.getElem?_set_self hl]⟩
    refine ⟨G2 _ (r1'.trans r2'), fun H3 r3' => ?_⟩
    show (if cc = true then _ else _)
    rw [if_pos hcc]
    refine ⟨G2 _ ((r1'.trans r2').trans r3'), fun H4 r4' => ?_⟩
    refine ⟨G2 _ (((r1'.trans r2').trans r3').trans r4'), fun H5 r5' => ?_⟩
    exact ⟨by show 2 ≤ sizeLine; decide, fun p hp => h H5 p ((((r1'.trans r2').trans r3').trans r4').trans r5') hp⟩
def tryF (i j : Nat) (mt : Str → Option Bool) (mb : M Fl) (f1 f2 : Str) : M Fl := fun ρ => match mb ρ with
  | .exc x ρ1 => (match mt x.cls with
    | some true => (match x.fs.lookup f1, x.fs.lookup f2 with
      | some d1, some d2 => if i < ρ1.length ∧ j < ρ1.length ∧ i ≠ j then .ok (.rt (.tmp (.lst none [d1, d2]))) ρ1 else .bad
      | _, _ => .bad)
    | some false => .exc x ρ1
    | none => .bad)
  | o => o
theorem pair_lookup {K : PySem.W.Frag} {Z : List Addr} {H : Hp} {f : Str} {d : D} : ∀ {fs : List (Str × V)} {fd : List (Str × D)}, Paired (fun (p : Str × V) (q : Str × D) => p.1 = q.1 ∧ Rp K (wo Z H) p.2 q.2) fs fd → fd.lookup f = some d → ∃ v, fs.lookup f = some v ∧ Rp K (wo Z H) v d
  | _, _, .nil, h => by cases h
  | p :: fs, q :: fd, .cons a b, h => by
    obtain ⟨pn, pv⟩ := p
    obtain ⟨qn, qv⟩ := q
    obtain ⟨rfl, r⟩ := a
    rw [List.lookup_cons] at h ⊢
    split at h
    · rename_i e
      cases h
      rw [e]
      exact ⟨pv, rfl, r⟩
    · rename_i e
      rw [e]
      exact pair_lookup b h
section
variable {X : Cx} {W : WX} {i j : Nat} {n x : Str} {C : Addr} {b₀ : Stmt} {body suite : List Stmt} {np pos pos' : PySem.Pos} {l : List (Str × Bool)} {mb : M Fl} {f1 f2 : Str}
theorem js_tryF (hs : X.stack = X.env :: X.outer) (hf : X.env.frame = some X.env.locals) (hN : X.N.Nodup) (hi : X.N[i]? = some n) (hln : X.env.kindOf n = some .local) (hg : Gl X x) (hdb : (x == ("__debug__" : Str)) = false) (hm : X.mg x = some (.ref C)) (tk : Takes X W)
    (hmt : Hmt X.K X.mg (.ref C) l) (hone : (l.all fun p => !p.2 || p.1 == x) = true)
    (hb : ∀ (W : WX) (pn : List (Addr × Obj)) (xe : Value → Shared → Prop), Takes (X.tr pn xe) W → PassesOwn (model X.prog X.w) X.A X.env xe → JSs (X.tr pn xe) W body mb)
    (hsu : ∀ (a : Addr) (oe : Obj) (pn : List (Addr × Obj)) (dd : Addr) (fs : List (Str × V)) (v1 v2 : V), Zc (.ref C) (some dd) oe → (∃ vs, oe.data = .fields vs) → fs.lookup f1 = some v1 → fs.lookup f2 = some v2 → PSs (X.suite a ((a, oe) :: pn)) (b₀ :: suite) (Suf i j a dd fs v1 v2)) :
    JS X W (.Try body [.ExceptHandler (some (.Name x np)) (some n) (b₀ :: suite) pos'] [] [] pos) (tryF i j (clsOf l) mb f1 f2) :=
  (ps_try_as (tb := fun _ => tS X.K X.mg _ mb) (ts := fun a cls d => fun E σ H => ∃ dd fs v1 v2, cls = .ref C ∧ d = some dd ∧ fs.lookup f1 = some v1 ∧ fs.lookup f2 = some v2 ∧ Suf i j a dd fs v1 v2 E σ H) hs hf hN hi hln ⟨hg, hdb, .inl hm⟩ tk hb
    (fun a oe cls d pn hz hv => ⟨fun pins s σ H E I z => by
      obtain ⟨dd, fs, v1, v2, rfl, rfl, k1, k2, z⟩ := z
      exact (hsu a oe pn dd fs v1 v2 hz hv k1 k2).run pins s σ H E I z⟩)).imp fun D σ H h => by
    obtain ⟨P, A, O, ρ, e, h⟩ := h
    refine ⟨P, A, O, ρ, e, ?_⟩
    unfold tryF at h
    cases q : mb ρ with
    | bad =>
      rw [q] at h
      exact h
    | ok fl ρ1 =>
      rw [q] at h
      cases fl <;> exact h
    | exc y ρ1 =>
      rw [q] at h
      dsimp only at h
      intro cls d σ1 H1 O1 e1 ex s1
      cases qm : clsOf l y.cls with
      | none =>
        rw [qm] at h
        exact h.elim
      | some b =>
        rw [qm] at h
        refine ⟨b, hmt.ok _ _ _ qm ex.1, fun hb a ha => ?_, fun hb => ?_⟩
        · subst hb
          dsimp only at h
          have hy : y.cls = x := one_of hone y.cls qm
          have hcls : cls = .ref C := by
            have := ex.1
            rw [hy, hm] at this
            exact (Option.some.inj this).symm
          cases k1 : y.fs.lookup f1 with
          | none =>
            rw [k1] at h
            exact h.elim
          | some d1 =>
            cases k2 : y.fs.lookup f2 with
            | none =>
              rw [k1, k2] at h
              exact h.elim
            | some d2 =>
              rw [k1, k2] at h
              dsimp only at h
              by_cases hx : i < ρ1.length ∧ j < ρ1.length ∧ i ≠ j
              · rw [if_pos hx] at h
                cases d with
                | none =>
                  have := ex.2
                  dsimp only at this
                  rw [this] at k1
                  cases k1
                | some dd =>
                  obtain ⟨_, fs, hdd, hnz, rp⟩ := ex.2
                  obtain ⟨v1, w1, r1⟩ := pair_lookup rp k1
                  obtain ⟨v2, w2, r2⟩ := pair_lookup rp k2
                  have hli : i < σ1.length := by rw [← e1.len]; exact hx.1
                  have hlj : j < σ1.length := by rw [← e1.len]; exact hx.2.1
                  refine ⟨dd, fs, v1, v2, hcls, rfl, w1, w2, ⟨by simp [hli], hdd⟩, by simpa using hlj, fun H' p gr hp => ?_⟩
                  have nt : NewT X.K (O1 ++ P) H1 (upd H' p (.lst [v1, v2])) (.ref p) (.lst none [d1, d2]) := by
                    have hp1 : H1 p = none := by
                      cases z : H1 p with
                      | none => rfl
                      | some o =>
                        rw [gr _ _ z] at hp
                        cases hp
                    have m : ∀ a o, wo (O1 ++ P) H1 a = some o → wo (p :: (O1 ++ P)) (upd H' p (.lst [v1, v2])) a = some o := fun a o z => by
                      obtain ⟨z1, z2⟩ := wo_some.mp z
                      have na : a ≠ p := fun q => by
                        rw [q, hp1] at z2
                        cases z2
                      refine wo_some.mpr ⟨fun w => (List.mem_cons.mp w).elim na z1, ?_⟩
                      rw [upd_ne na]
                      exact gr _ _ z2
                    exact ⟨fun a o z => upd_more hp a o (gr a o z), ⟨[p], .lst (List.mem_append_left _ (List.mem_singleton.mpr rfl)) upd_same (.cons (r1.mono m) (.cons (r2.mono m) .nil)), fun a ha => by rw [List.mem_singleton.mp ha]; exact hp1⟩, fun _ _ q => nomatch q⟩
                  obtain ⟨F, e', r, hF⟩ := nt.rr e1
                  exact h (.ref p) σ1 _ O1 F e' r (s1.trans ⟨fun a ha => (List.mem_append.mp ha).elim (fun z => .inr (hF a z)) .inl, fun a o _ q => nt.more a o q, fun a o q => ⟨o, nt.more a o q⟩⟩)
              · rw [if_neg hx] at h
                exact h.elim
        · subst hb
          exact h cls d σ1 H1 O1 e1 ex s1
end
end DL

set_option Elab.async false
set_option maxRecDepth 100000
set_option maxHeartbeats 4000000
namespace DL
open PySem PySem.Spec PyProof.Rows L2
/-! ### raise C(e1, e2), C's __init__ walked -/
/-- B.__init__(self, ..), B an own class whose maker is ValueError's -/
structure InB (K : PySem.W.Frag) (mg : Str → Option Value) (x : Str) (B : Addr) : Prop where
  g : mg x = some (.ref B)
  ga : PySem.W.specialIn K (.ref B) "__getattribute__" = some (some (.builtin "type.__getattribute__"))
  rd : PySem.W.readsIn K B (.type "type") = true
  at_ : PySem.W.findCls K (.ref B) (.type "type") "__init__" = some (.val (.builtin "ValueError.__init__"))
section
variable {X : Cx} {B : Addr} {x : Str} {e : Expr} {es : List Expr} {ta : TA} {p1 p2 pos : PySem.Pos}
theorem pe_beinit {pl : Sem Bool} (c : InB X.K X.mg x B) (hg : Gl X x) (hdb : (x == ("__debug__" : Str)) = false) (ha : PA X (e :: es) ta)
    (hc : eval (.Call (.Attribute (.Name x p1) "__init__" p2) (e :: es) [] pos) X.env = (do
      let ov ← eval (.Name x p1) X.env
      standAt p2.atName
      let (fv, first) ← holding [ov] (getMethod ov "__init__" pl)
      callWith pos fv first (backTo pos (starEach (e :: es) X.env)) (backToKw pos (keywordEach [] X.env))))
    (he : starEach (e :: es) X.env = (false, eval e X.env) :: starEach es X.env) (hpl : (backTo pos (starEach es X.env)).any (·.1) = false) :
    PE X (.Call (.Attribute (.Name x p1) "__init__" p2) (e :: es) [] pos) (tVeI X.K ta) := by
  refine ⟨fun pins s σ H Q I h => ?_⟩
  refine PySem.W.methodCall_KW (ld_glob I hg c.g ?_ hdb) hc
  refine PySem.W.method_cls I.kIn c.ga (PySem.W.cls_value I.kIn c.rd c.at_ (by decide +kernel) ?_)
  show wpAny _ _ (callWith pos (Value.builtin "ValueError.__init__") [] (backTo pos (starEach (e :: es) X.env)) []) _ _ _
  refine PyProof.Rows.callWith_method1 (thn (ha.run pos pins _ σ H _ (I.tok _) h) fun us s1 ⟨vs, H1, I1, r1, a, C, ws, ev, hl, T, ea, q⟩ => ?_) he hpl
  subst ev
  cases r1 with
  | @cons _ u0 _ ur ra rw' =>
    obtain rfl : u0 = Value.ref a := ra
    have hlen : ur.length ≤ sizeLine := by
      rw [← Paired.length rw', sizeLine_eq]
      omega
    exact oinit_ok T I1 ea hlen fun s' J => ⟨.non, H1, J, rfl, q⟩
end
/-- __init__(self, f1, f2): self.f1 = f1; self.f2 = f2 -/
def spI2 (C : Addr) (f1 f2 : Str) : Sp := fun vs H Q _ => ∃ a v1 v2, vs = [.ref a, v1, v2] ∧ H a = some (exo a C none) ∧ ∀ dx, H dx = none → dx ≠ a → Q .non (upd (upd (upd H dx (exd dx [(f1, v1)])) a (exo a C (some dx))) dx (exd dx [(f2, v2), (f1, v1)]))
theorem init2_ok {P : Program} {w : World} {K : PySem.W.Frag} {mg : Str → Option Value} {base : Heap} {x qual b f1 f2 : Str} {params : Arguments} {scope : Scope} {f C B : Addr} {fd : FuncData} {k : Nat}
    {q1 q2 q3 q4 q5 q6 q7 q8 q9 qa qb qc qd qe : PySem.Pos} (hc : OexC K C) (n1 : PySem.W.findIn K (.ref C) f1 = some none) (n2 : PySem.W.findIn K (.ref C) f2 = some none) (cB : InB K mg b B) (hbd : (b == ("__debug__" : Str)) = false) (hbn : b ≠ "self" ∧ b ≠ f1 ∧ b ≠ f2)
    (F : FunD K x qual params [.Expr (.Call (.Attribute (.Name b q1) "__init__" q2) [.Name "self" q3, .Name f1 q4] [] q5) q6, .Assign [.Attribute (.Name "self" q7) f1 q8] (.Name f1 q9) qa, .Assign [.Attribute (.Name "self" qb) f2 qc] (.Name f2 qd) qe] scope [] [] f fd)
    (S : FnScope ["self", f1, f2] ["self", f1, f2] scope) (v0 : Vis scope "self") (v1 : Vis scope f1) (v2 : Vis scope f2) (hd1 : (f1 == ("__debug__" : Str)) = false) (hd2 : (f2 == ("__debug__" : Str)) = false) (hcd1 : (f1 == ("__classdict__" : Str)) = false) (hcd2 : (f2 == ("__classdict__" : Str)) = false)
    (hgl : ∀ (cdv : Value) (A : Around) (outer : List Env) (s : Shared) (H : Hp) (E : XK), Gl (cxOf (L2.CX P w) P w K mg base ["self", f1, f2] qual scope f cdv A outer s H E) b)
    (ht : ∀ (cdv : Value) (A : Around) (outer : List Env) (s : Shared) (H : Hp) (E : XK), ∃ pl : Sem Bool, eval (.Call (.Attribute (.Name b q1) "__init__" q2) [.Name "self" q3, .Name f1 q4] [] q5) (cxOf (L2.CX P w) P w K mg base ["self", f1, f2] qual scope f cdv A outer s H E).env = (do
      let ov ← eval (.Name b q1) (cxOf (L2.CX P w) P w K mg base ["self", f1, f2] qual scope f cdv A outer s H E).env
      standAt q2.atName
      let (fv, first) ← holding [ov] (getMethod ov "__init__" pl)
      callWith q5 fv first (backTo q5 (starEach [.Name "self" q3, .Name f1 q4] (cxOf (L2.CX P w) P w K mg base ["self", f1, f2] qual scope f cdv A outer s H E).env)) (backToKw q5 (keywordEach [] (cxOf (L2.CX P w) P w K mg base ["self", f1, f2] qual scope f cdv A outer s H E).env)))) :
    FnOk P w K mg base (L2.CX P w) (k + 1) f fd ["self", f1, f2] (spI2 C f1 f2) := by
  refine F.ok S (fun vs H Q E h => ?_) (fun cdv A outer s H vs Q E hr h => ?_)
  · obtain ⟨a, w1, w2, rfl, _⟩ := h
    rfl
  · obtain ⟨pl, hev⟩ := ht cdv A outer s H E
    refine ⟨_, pss_cons (ps_expr (pe_beinit cB (hgl cdv A outer s H E) hbd (pa_cons (pe_var (i := 0) rfl v0 rfl rfl) (pa_cons (pe_var (i := 1) rfl v1 hd1 hcd1) pa_nil rfl) rfl) hev rfl rfl) rfl)
      (pss_cons (ps_ost (f := f1) (pe_var (i := 0) rfl v0 rfl rfl) (pe_var (i := 1) rfl v1 hd1 hcd1) rfl) (pss_one (ps_ost (f := f2) (pe_var (i := 0) rfl v0 rfl rfl) (pe_var (i := 2) rfl v2 hd2 hcd2) rfl))), ?_⟩
    obtain ⟨a, w1, w2, rfl, ha, hq⟩ := h
    refine ⟨_, rfl, _, rfl, a, C, [w1], rfl, (by show 1 ≤ 1000; decide), hc, ha, ?_⟩
    refine ⟨_, rfl, _, rfl, a, C, rfl, hc, n1, .inl ⟨ha, fun dx hn hne => ?_⟩⟩
    refine ⟨_, rfl, _, rfl, a, C, rfl, hc, n2, .inr ⟨dx, [(f1, w1)], upd_same, by rw [upd_ne hne, upd_same], (by show 1 ≤ 900; decide), ?_⟩⟩
    exact hq dx hn hne
end DL

set_option Elab.async false
set_option maxRecDepth 100000
set_option maxHeartbeats 4000000
namespace DL
open PySem PySem.Spec PyProof.Rows L2
/-! ### raise C(e1, e2): the statement -/
def throwF (x f1 f2 : Str) (rs : List R) : M Fl := fun ρ => match looks rs ρ with
  | some [d1, d2] => if scalD d1 = true ∧ scalD d2 = true then .exc ⟨x, [(f2, d2), (f1, d1)]⟩ ρ else .bad
  | _ => .bad
def raiseF (x f1 f2 : Str) (ms : M (List R)) : M Fl := M.bind ms (throwF x f1 f2)
theorem Rp.scal {K : PySem.W.Frag} {H H' : Hp} {v : V} {d : D} (h : Rp K H v d) (hs : scalD d = true) : Rp K H' v d := by
  cases h with
  | non => exact .non
  | bl b => exact .bl b
  | int i => exact .int i
  | str i => exact .str i
  | lst _ _ => cases hs
  | tup _ _ => cases hs
structure RaO (K : PySem.W.Frag) (mg : Str → Option Value) (x f1 f2 : Str) (C fI : Addr) : Prop where
  o : OexC K C
  g : mg x = some (.ref C)
  i : PySem.W.findIn K (.ref C) "__init__" = some (some (.ref fI))
  t : PySem.W.typeIn K (.ref fI) = some (.type "function")
section
variable {X : Cx} {W : WX} {x f1 f2 : Str} {C fI : Addr} {fd : FuncData} {k : Nat} {p pos pos' : PySem.Pos} {e1 e2 : Expr} {ms : M (List R)}
theorem js_raiseF (hc : X.calm = true) (tk : Takes X W) (c : RaO X.K X.mg x f1 f2 C fI) (F1 : FnOk X.prog X.w X.K X.mg X.base (L2.CX X.prog X.w) k fI fd ["self", f1, f2] (spI2 C f1 f2)) (hr : Room (k + 1) X.A) (hb : Binds X.K fd ["self", f1, f2] [])
    (hg : Gl X x) (hdb : (x == ("__debug__" : Str)) = false) (ha : JEs X W [e1, e2] ms) (he : starEach [e1, e2] X.env = (false, eval e1 X.env) :: starEach [e2] X.env) (hpl : (backTo pos (starEach [e2] X.env)).any (·.1) = false) :
    JS X W (.Raise (some (.Call (.Name x p) [e1, e2] [] pos)) none pos') (raiseF x f1 f2 ms) :=
  (ps_raise hc tk (pmk_oex c.o c.i c.t F1 hr hb .nil (fun _ _ _ _ _ _ _ ⟨_, _, _, _, _, _, _, _, _, _, _, _, z⟩ => z.elim) hg c.g ha hdb he hpl)).imp fun D σ H h => by
    obtain ⟨P, A, O, ρ, e, h⟩ := h
    refine ⟨P, A, O, ρ, e, (AftS.bind1 (rl := relRs X.K σ) h).mono ?_⟩
    rintro vs H1 ⟨O1, ρ1, rs, F, e1', r1, s1, h1⟩
    unfold throwF at h1
    split at h1
    · rename_i d1 d2 q
      split at h1
      · rename_i hs
        obtain ⟨hs1, hs2⟩ := hs
        have rp := looks_vr e1'.less r1 q
        cases rp with
        | @cons v1 _ _ _ a1 rp =>
          cases rp with
          | @cons v2 _ _ _ a2 rp =>
            cases rp
            refine ⟨by show 2 ≤ 1000; decide, fun a ha0 => ?_⟩
            refine ⟨a, v1, v2, rfl, upd_same, fun dx hdx hne => ⟨rfl, dx, [(f2, v2), (f1, v1)], ?_, upd_same, ?_, ?_⟩⟩
            · rw [upd_ne (Ne.symm hne), upd_same]
            · rw [upd_ne hne] at hdx
              exact hdx
            · rw [upd_ne hne] at hdx
              have eH : upd (del (upd (upd (upd (upd H1 a (exo a C none)) dx (exd dx [(f1, v1)])) a (exo a C (some dx))) dx (exd dx [(f2, v2), (f1, v1)])) a) dx (.xd [(f2, v2), (f1, v1)]) = upd H1 dx (.xd [(f2, v2), (f1, v1)]) := by
                funext b
                by_cases hb1 : b = dx
                · rw [hb1, upd_same, upd_same]
                · rw [upd_ne hb1, upd_ne hb1]
                  by_cases hb2 : b = a
                  · rw [hb2, del_same, ha0]
                  · rw [del_ne hb2, upd_ne hb1, upd_ne hb2, upd_ne hb1, upd_ne hb2]
              rw [eH]
              have m := upd_more (o := .xd [(f2, v2), (f1, v1)]) hdx
              refine h1 (.ref C) (some dx) σ _ O1 (e1'.less.more m) ⟨c.g, List.cons_ne_nil _ _, _, upd_same, e1'.less.fresh hdx, .cons ⟨rfl, a2.rp.scal hs2⟩ (.cons ⟨rfl, a1.rp.scal hs1⟩ .nil)⟩ (s1.less.trans (Step.more m))
      · exact h1.elim
    · exact h1.elim
end
end DL

set_option Elab.async false
set_option maxRecDepth 100000
set_option maxHeartbeats 4000000
namespace DL
open PySem PySem.Spec PyProof.Rows L2
/-! ### checks of classes with an __init__ of their own -/
def oexB (K : PySem.W.Frag) (C : Addr) : Bool := (match K.lookup C with
  | some ⟨.type "type", _, .cls cd, sl⟩ => (match cd.mro, sl.toList with
    | .ref C' :: bm, [_, _, _, _, some (.builtin n), _] => C' == C && n == "ValueError.__new__" && !cd.hasDel && cd.hasDict && PySem.HandSPX.refsVE bm
    | _, _ => false)
  | _ => false) && (He.eqO (PySem.W.findIn K (.ref C) "__setattr__") (some (some (.builtin "object.__setattr__"))) && (decide (PySem.W.subIn K (.ref C) (.type "BaseException") = some true) && (decide (PySem.W.typeIn K (.ref C) = some (.type "type")) && PySem.W.keepIn K (.ref C))))
theorem oexB_ok {K : PySem.W.Frag} {C : Addr} (q : oexB K C = true) : OexC K C := by
  unfold oexB at q
  simp only [Bool.and_eq_true, decide_eq_true_eq] at q
  obtain ⟨q, h1, h2, h3, h4⟩ := q
  refine ⟨?_, He.eqO_ok h1, h2, h3, h4⟩
  split at q
  · rename_i dd cd sl ho
    split at q
    · rename_i C' bm k0 k1 k2 k3 n k5 hm hs
      simp only [Bool.and_eq_true, beq_iff_eq, Bool.not_eq_true'] at q
      obtain ⟨⟨⟨⟨rfl, rfl⟩, hdel⟩, hdc⟩, ht⟩ := q
      obtain ⟨nm, bs, mro, ns, qn, hd, sn, sub, ab, col, del⟩ := cd
      dsimp only at hm hdel hdc
      subst hm hdel hdc
      have hsl : sl = #[k0, k1, k2, k3, some (.builtin "ValueError.__new__"), k5] := by
        obtain ⟨l⟩ := sl
        simp only at hs
        rw [hs]
      subst hsl
      exact ⟨nm, qn, ns, bs, bm, sn, sub, ab, col, dd, k0, k1, k2, k3, k5, ho, ht⟩
    · cases q
  · cases q
def raoB (K : PySem.W.Frag) (x : Str) : Bool := oexB K (He.ga K x) && (He.eqO (PySem.W.nsIn K mainGlobals x) (some (some (.ref (He.ga K x)))) && (He.eqO (PySem.W.findIn K (.ref (He.ga K x)) "__init__") (some (some (.ref (He.ma K (He.ga K x) "__init__")))) &&
  decide (PySem.W.typeIn K (.ref (He.ma K (He.ga K x) "__init__")) = some (.type "function"))))
theorem raoB_ok {K : PySem.W.Frag} {h : Heap} {mg : Str → Option Value} {x f1 f2 : Str} (X : K.In h) (G : h.Ns mainGlobals mg) (q : raoB K x = true) : RaO K mg x f1 f2 (He.ga K x) (He.ma K (He.ga K x) "__init__") := by
  unfold raoB at q
  simp only [Bool.and_eq_true, decide_eq_true_eq] at q
  obtain ⟨h1, h2, h3, h4⟩ := q
  exact ⟨oexB_ok h1, PySem.W.mg_of X G (He.eqO_ok h2), He.eqO_ok h3, h4⟩
def inB (K : PySem.W.Frag) (x : Str) : Bool := He.eqO (PySem.W.nsIn K mainGlobals x) (some (some (.ref (He.ga K x)))) && (He.eqO (PySem.W.specialIn K (.ref (He.ga K x)) "__getattribute__") (some (some (.builtin "type.__getattribute__"))) &&
  (PySem.W.readsIn K (He.ga K x) (.type "type") && (match PySem.W.findCls K (.ref (He.ga K x)) (.type "type") "__init__" with
    | some (.val (.builtin n)) => n == "ValueError.__init__"
    | _ => false)))
theorem inB_ok {K : PySem.W.Frag} {h : Heap} {mg : Str → Option Value} {x : Str} (X : K.In h) (G : h.Ns mainGlobals mg) (q : inB K x = true) : InB K mg x (He.ga K x) := by
  unfold inB at q
  simp only [Bool.and_eq_true] at q
  obtain ⟨h1, h2, h3, h4⟩ := q
  refine ⟨PySem.W.mg_of X G (He.eqO_ok h1), He.eqO_ok h2, h3, ?_⟩
  split at h4
  · rename_i n e
    rw [e, beq_iff_eq.mp h4]
  · cases h4
/-! ### the head's hook, with the interpreter's statics -/
def asS (g : Addr → Option Obj) (n : Nat) : List Addr := He.asD g n ++ [cStatics]
def obsXS (n : Nat) (fx : PySem.W.Frag → Bool) (fa : List He.Fa) (fn : List He.DefD) (g : Addr → Option Obj) : He.AlD := obsX fx fa fn (He.frG g (asS g n))
def hookS (n : Nat) (fx : PySem.W.Frag → Bool) (fa : List He.Fa) (fn : List He.DefD) : PySem.W.Hook where
  α := He.AlD
  obs := fun s => obsXS n fx fa fn s.heap.get?
  val := fun _ => He.valD fn
  says := fun _ h => ∃ K : PySem.W.Frag, K.In h ∧ SaysX fx fa fn K
  of := fun _ _ e => ⟨_, He.frG_in, e⟩
  keeps := fun _ _ _ ⟨K, hK, c⟩ k => ⟨K, PySem.W.Frag.In.keeps hK k, c⟩
theorem obsXS_eq {n : Nat} {fx : PySem.W.Frag → Bool} {fa : List He.Fa} {fn : List He.DefD} {g : Addr → Option Obj} {s : Shared} (h : ∀ a, g a = s.heap.get? a) : obsXS n fx fa fn g = (hookS n fx fa fn).obs s := by
  have e : g = s.heap.get? := funext h
  rw [e] <;> rfl
def mthAt (s : Stmt) (i : Nat) : Stmt := match s with
  | .ClassDef _ _ _ b _ _ _ _ _ _ _ => b.getD i (.Pass ⟨0, 0, 0, 0⟩)
  | _ => .Pass ⟨0, 0, 0, 0⟩
end DL

set_option Elab.async false
set_option maxRecDepth 100000
set_option maxHeartbeats 4000000
namespace DL
open PySem PySem.Spec PyProof.Rows L2
/-! ### a def that changes the list lent to it, and tells a thing -/
def FAftM (K : PySem.W.Frag) (P : List Addr) (a : Addr) (H : Hp) (o : Option (List D × D)) (Q : VK) : Prop := match o with
  | some p => ∀ v H' zs', (∀ b u, b ≠ a → H b = some u → H' b = some u) → H' a = some (.lst zs') → RpAll K (wo (a :: P) H') zs' p.1 → Rp K (wo (a :: P) H') v p.2 → Q v H'
  | none => False
def spM (K : PySem.W.Frag) (n : Nat) (f : List D → List D → Option (List D × D)) : Sp := fun vs H Q _ => ∃ (P : List Addr) (a : Addr) (vs' zs : List V) (es ds : List D), vs = .ref a :: vs' ∧ ds.length + 1 = n ∧ H a = some (.lst zs) ∧ a ∉ P ∧ RpAll K (wo (a :: P) H) zs es ∧
  RpAll K (fun _ => none) vs' ds ∧ (∀ b ∈ P, ∃ o, H b = some o) ∧ FAftM K P a H (f es ds) Q
def lstO : Option (Option T) → D → Option (List D × D)
  | some (some (T.lst (some 0) es')), d => some (es', d)
  | _, _ => none
def valO (ρ : Rho) : Option (Option T) → Option (List D × D)
  | some (some (T.val d)) => lstO ρ[0]? d
  | _ => none
def finM : Out Fl → Option (List D × D)
  | .ok .nx ρ => lstO ρ[0]? .none
  | .ok (.rt (.tmp (.val d))) ρ => lstO ρ[0]? d
  | .ok (.rt (.slot i)) ρ => valO ρ ρ[i]?
  | _ => none
def runM (n : Nat) (m : M Fl) (es ds : List D) : Option (List D × D) := finM (m ((some (.lst (some 0) es) :: ds.map (fun d => some (T.val d))) ++ List.replicate n none))
theorem lstO_some {o : Option (Option T)} {d : D} {p : List D × D} (h : lstO o d = some p) : o = some (some (T.lst (some 0) p.1)) ∧ p.2 = d := by
  unfold lstO at h
  split at h
  · cases h
    exact ⟨rfl, rfl⟩
  · cases h
section
variable {P : Program} {w : World} {K : PySem.W.Frag} {mg : Str → Option Value} {base : Heap} {x qual : Str} {params : Arguments} {body : List Stmt} {scope : Scope} {f : Addr} {fd : FuncData}
theorem fn_okM {N ps : List Str} {k n : Nat} {m : M Fl} (F : FunD K x qual params body scope [] [] f fd) (S : FnScope N ps scope) (hN : N.length = ps.length + n)
    (hbody : ∀ (cdv : Value) (A : Around) (outer : List Env) (s : Shared) (H : Hp) (E : XK), Room k (A.deeper (envOfC qual scope s.heap.objs.size f cdv)) →
      JSs (cxOf (L2.CX P w) P w K mg base N qual scope f cdv A outer s H E) (fun cls d _ H => E cls d H) body m) : FnOk P w K mg base (L2.CX P w) (k + 1) f fd ps (spM K ps.length (runM n m)) := by
  refine F.ok S (fun vs H Q E h => ?_) (fun cdv A outer s H vs Q E hr h => ⟨_, hbody cdv A outer s H E hr, ?_⟩)
  · obtain ⟨Pr, a, vs', zs, es, ds, rfl, hl, _, _, _, rp, _⟩ := h
    rw [List.length_cons, rp.length, hl]
  · obtain ⟨Pr, a, vs', zs, es, ds, rfl, hl, ha, hn, rz, rp, hP, hf⟩ := h
    refine ⟨Pr, .ref a :: vs', [a], _, start_envL hN hl ha hn rz rp hP, ?_⟩
    show AftS K mg _ Pr (.ref a :: vs') [a] H (m ((some (.lst (some 0) es) :: ds.map (fun d => some (T.val d))) ++ List.replicate n none)) _
    unfold runM at hf
    -- the list behind the run
    have own : ∀ {ρ' : Rho} {O' : List Addr} {H' : Hp} {σ' : L2.St} {es' : List D}, EnvR K Pr (.ref a :: vs') O' H' σ' ρ' → ρ'[0]? = some (some (T.lst (some 0) es')) → Step [a] H O' H' →
        a ∈ O' ∧ (∀ b u, b ≠ a → H b = some u → H' b = some u) ∧ ∃ zs', H' a = some (.lst zs') ∧ RpAll K (wo (a :: Pr) H') zs' es' := fun {ρ' O' H' σ' es'} e q0 s1 => by
      obtain ⟨v, t1, t2⟩ := e.tag 0 0 es' q0
      obtain rfl : V.ref a = v := Option.some.inj t2
      obtain ⟨Fs, h1, h2⟩ := e.at_
      obtain ⟨w', e1, r, hO⟩ := h1 0 _ q0
      rw [t1] at e1
      cases e1
      generalize hF : Fs 0 = F at r hO
      cases r with
      | @lst _ zs' _ _ m1 m2 m3 =>
        have haO : a ∈ O' := hO a (List.mem_singleton.mpr rfl)
        refine ⟨haO, fun b u hb hu => s1.ext b u (fun z => hb (List.mem_singleton.mp z)) hu, zs', m2, m3.mono fun b u z => ?_⟩
        obtain ⟨z1, z2⟩ := wo_some.mp z
        refine wo_some.mpr ⟨fun y => z1 ?_, z2⟩
        rcases List.mem_cons.mp y with y | y
        · rw [y]
          exact List.mem_append_left _ haO
        · exact List.mem_append_right _ y
    cases q : m ((some (.lst (some 0) es) :: ds.map (fun d => some (T.val d))) ++ List.replicate n none) with
    | bad =>
      rw [q] at hf
      exact hf
    | exc x ρ' =>
      rw [q] at hf
      exact hf.elim
    | ok fl ρ' =>
      rw [q] at hf
      cases fl with
      | bk => exact hf.elim
      | ct => exact hf.elim
      | nx =>
        intro σ' H' O' e s1
        cases ql : lstO ρ'[0]? PyData.none with
        | none =>
          have hf' : FAftM K Pr a H (lstO ρ'[0]? PyData.none) Q := hf
          rw [ql] at hf'
          exact hf'.elim
        | some p =>
          have hf' : FAftM K Pr a H (lstO ρ'[0]? PyData.none) Q := hf
          rw [ql] at hf'
          obtain ⟨q0, qd⟩ := lstO_some ql
          obtain ⟨haO, h1, zs', h2, h3⟩ := own e q0 s1
          exact hf' .non H' zs' h1 h2 h3 (by rw [qd]; exact .non)
      | rt r =>
        intro v σ' H' O' F e r1 s1
        have e0 : EnvR K Pr (.ref a :: vs') O' H' σ' ρ' := e.less
        cases r with
        | tmp t =>
          cases t with
          | lst tag ys => exact hf.elim
          | val d =>
            have hf' : FAftM K Pr a H (lstO ρ'[0]? d) Q := hf
            cases ql : lstO ρ'[0]? d with
            | none =>
              rw [ql] at hf'
              exact hf'.elim
            | some p =>
              rw [ql] at hf'
              obtain ⟨q0, qd⟩ := lstO_some ql
              obtain ⟨haO, h1, zs', h2, h3⟩ := own e0 q0 s1.less
              obtain ⟨r2, r3, r4⟩ := r1
              generalize hFF : F = FF at r2
              cases r2 with
              | val rp =>
                refine hf' v H' zs' h1 h2 h3 ?_
                rw [qd]
                refine rp.mono fun b u z => ?_
                obtain ⟨z1, z2⟩ := wo_some.mp z
                refine wo_some.mpr ⟨fun y => z1 ?_, z2⟩
                rcases List.mem_cons.mp y with y | y
                · rw [y]
                  exact List.mem_append_right _ (List.mem_append_left _ haO)
                · exact List.mem_append_right _ (List.mem_append_right _ y)
        | slot i =>
          have hf' : FAftM K Pr a H (valO ρ' ρ'[i]?) Q := hf
          unfold valO at hf'
          split at hf'
          · rename_i d qi
            cases ql : lstO ρ'[0]? d with
            | none =>
              rw [ql] at hf'
              exact hf'.elim
            | some p =>
              rw [ql] at hf'
              obtain ⟨q0, qd⟩ := lstO_some ql
              obtain ⟨haO, h1, zs', h2, h3⟩ := own e0 q0 s1.less
              obtain ⟨Fs, g1, g2⟩ := e0.at_
              obtain ⟨w', e1, r2, hO⟩ := g1 i _ qi
              have r1' : σ'[i]? = some (some v) := r1
              rw [e1] at r1'
              cases r1'
              generalize hFF : Fs i = FF at r2
              cases r2 with
              | val rp =>
                refine hf' v H' zs' h1 h2 h3 ?_
                rw [qd]
                refine rp.mono fun b u z => ?_
                obtain ⟨z1, z2⟩ := wo_some.mp z
                refine wo_some.mpr ⟨fun y => z1 ?_, z2⟩
                rcases List.mem_cons.mp y with y | y
                · rw [y]
                  exact List.mem_append_left _ haO
                · exact List.mem_append_right _ y
          · exact hf'.elim
/-- nothing is asked of it -/
theorem fn_none {N ps : List Str} {k : Nat} (F : FunD K x qual params body scope [] [] f fd) (S : FnScope N ps scope) : FnOk P w K mg base (L2.CX P w) (k + 1) f fd ps (spM K ps.length fun _ _ => none) := by
  refine F.ok S (fun vs H Q E h => ?_) (fun cdv A outer s H vs Q E hr h => ?_)
  · obtain ⟨Pr, a, vs', zs, es, ds, rfl, hl, _, _, _, rp, _⟩ := h
    rw [List.length_cons, rp.length, hl]
  · obtain ⟨Pr, a, vs', zs, es, ds, rfl, hl, ha, hn, rz, rp, hP, hf⟩ := h
    exact hf.elim
end
def callMM (f : List D → List D → Option (List D × D)) (rs : List R) : M R := fun ρ => match rs with
  | .slot i :: rs' => (match ρ[i]?, looks rs' ρ with
    | some (some (.lst tag es)), some ds => if ds.all scalD = true then (match f es ds with
      | some p => .ok (.tmp (.val p.2)) (ρ.set i (some (.lst tag p.1)))
      | none => .bad) else .bad
    | _, _ => .bad)
  | _ => .bad
theorem callMM_ok {K : PySem.W.Frag} {mg : Str → Option Value} {W : WX} {P O F : List Addr} {A : List V} {H : Hp} {σ : L2.St} {ρ : Rho} {vs : List V} {rs : List R} {n : Nat} {f : List D → List D → Option (List D × D)} {Q : VK} (e : EnvR K (F ++ P) A O H σ ρ) (r : RRs K P O H σ F vs rs)
    (h : Aft (relR K σ) K mg W P A σ O H (callMM f rs ρ) Q) (hn : rs.length = n) (E : XK) : spM K n f vs H Q E := by
  unfold callMM at h
  cases r with
  | nil => exact h.elim
  | @cons _ _ _ _ v vs' ro rs' F1 Fs G r1 r2 hG =>
    cases ro with
    | tmp t => exact h.elim
    | slot i =>
      simp only at h
      split at h
      · rename_i tag es ds q1 q2
        by_cases hs : ds.all scalD = true
        · rw [if_pos hs] at h
          have e0 : EnvR K P A O H σ ρ := e.less
          obtain ⟨a, zs, rfl, m2, m3, m4, m5⟩ := e0.own q1 (show σ[i]? = some (some v) from r1)
          have rp : RpAll K (fun _ => none) vs' ds := by
            have e1 : EnvR K (F1 ++ P) A O H σ ρ := by
              rw [hG, List.append_assoc] at e
              exact e.less
            exact rps_scal (Paired.rp (looks_vr e1 r2 q2)) hs
          have na : a ∉ P := fun z => (e0.prot a z).1 m4
          have mem : ∀ b, b ∈ a :: (O.filter (fun c => decide (c ≠ a)) ++ P) ↔ b ∈ O ++ P := fun b => by
            simp only [List.mem_cons, List.mem_append, List.mem_filter, decide_eq_true_eq]
            constructor
            · rintro (rfl | ⟨h1, _⟩ | h1)
              · exact .inl m4
              · exact .inl h1
              · exact .inr h1
            · rintro (h1 | h1)
              · by_cases hb : b = a
                · exact .inl hb
                · exact .inr (.inl ⟨h1, hb⟩)
              · exact .inr (.inr h1)
          refine ⟨O.filter (fun c => decide (c ≠ a)) ++ P, a, vs', zs, es, ds, rfl, ?_, m2, fun z => ?_, m3.mono fun b o z => ?_, rp, fun b hb => ?_, ?_⟩
          · have := looks_len q2
            rw [this, ← hn, List.length_cons]
          · rcases List.mem_append.mp z with z | z
            · have := (List.mem_filter.mp z).2
              simp at this
            · exact na z
          · obtain ⟨z1, z2⟩ := wo_some.mp z
            exact wo_some.mpr ⟨fun y => z1 ((mem b).mp y), z2⟩
          · rcases List.mem_append.mp hb with z | z
            · exact e0.trk b (List.mem_filter.mp z).1
            · exact (e0.prot b z).2
          · cases qf : f es ds with
            | none =>
              rw [qf] at h
              exact h.elim
            | some p =>
              rw [qf] at h
              simp only at h
              · intro v H' zs' k1 k2 k3 k4
                have more : ∀ b u, H b = some u → upd H' a (.lst zs) b = some u := fun b u z => by
                  by_cases hb : b = a
                  · subst hb
                    rw [m2] at z
                    rw [upd_same, z]
                  · rw [upd_ne hb]
                    exact k1 b u hb z
                have e1 : EnvR K P A O (upd H' a (.lst zs)) σ ρ := e0.more more
                obtain ⟨a', zs1, ea, _, _, _, m5'⟩ := e1.own q1 (show σ[i]? = some (some (V.ref a)) from r1)
                cases ea
                have back : upd (upd H' a (.lst zs)) a (.lst zs') = H' := by
                  rw [upd_upd]
                  funext b
                  by_cases hb : b = a
                  · subst hb
                    rw [upd_same, k2]
                  · rw [upd_ne hb]
                have k3' : RpAll K (wo (O ++ P) (upd H' a (.lst zs))) zs' p.1 := k3.mono fun b u z => by
                  obtain ⟨z1, z2⟩ := wo_some.mp z
                  refine wo_some.mpr ⟨fun y => z1 ((mem b).mpr y), ?_⟩
                  rw [upd_ne fun y => z1 (by rw [y]; exact List.mem_cons_self)]
                  exact z2
                obtain ⟨e5, s5⟩ := m5' zs' p.1 k3'
                rw [back] at e5 s5
                refine h v H' O [] e5 (rr_val (k4.mono fun b u z => ?_)) ((Step.more more).trans s5)
                obtain ⟨z1, z2⟩ := wo_some.mp z
                exact wo_some.mpr ⟨fun y => z1 ((mem b).mpr y), z2⟩
        · rw [if_neg hs] at h
          exact h.elim
      · exact h.elim
section
variable {X : Cx} {W : WX} {k n : Nat} {f : Addr} {fd : FuncData} {ps : List Str} {g : List D → List D → Option (List D × D)} {x : Str} {p pos : PySem.Pos} {e : Expr} {es : List Expr} {ms : M (List R)}
theorem j_callM (F : FnOk X.prog X.w X.K X.mg X.base (L2.CX X.prog X.w) k f fd ps (spM X.K (es.length + 1) g)) (hr : Room k X.A) (tk : Takes X W) (hg : Gl X x) (hm : X.mg x = some (.ref f)) (hk : PySem.W.keepIn X.K (.ref f) = true) (hb : Binds X.K fd ps [])
    (ha : JEs X W (e :: es) ms) (hl : ∀ ρ rs ρ', ms ρ = .ok rs ρ' → rs.length = es.length + 1) (hdb : (x == ("__debug__" : Str)) = false) (he : starEach (e :: es) X.env = (false, eval e X.env) :: starEach es X.env) (hpl : (backTo pos (starEach es X.env)).any (·.1) = false) :
    JE X W (.Call (.Name x p) (e :: es) [] pos) (M.bind ms (callMM g)) := (pe_callS (E := WE W) F hr hg hm hk hb (fun σ => passAt tk σ) ha hdb he hpl).imp fun σ H Q h => by
  obtain ⟨P, A, O, ρ, e, h⟩ := h
  cases q : ms ρ with
  | bad =>
    unfold M.bind at h
    rw [q] at h
    exact h.elim
  | exc x ρ1 =>
    refine ⟨P, A, O, ρ, e, ?_⟩
    unfold M.bind at h
    rw [q] at h ⊢
    exact h
  | ok rs ρ1 =>
    refine ⟨P, A, O, ρ, e, ?_⟩
    unfold M.bind at h
    rw [q] at h ⊢
    intro vs H1 O1 F1 e1 r1 s1
    exact callMM_ok e1 r1 (Aft.step h s1.less) (hl ρ rs ρ1 q) _
end
abbrev lenF (f : List D → List D → Option (List D × D)) (ms : M (List R)) : M R := M.bind ms (callMM f)
end DL

set_option Elab.async false
set_option maxRecDepth 100000
set_option maxHeartbeats 4000000
namespace DL
open PySem PySem.Spec PyProof.Rows L2
/-! ### what is never reached -/
def badE : M R := fun _ => .bad
def badB : M Bool := fun _ => .bad
section
variable {X : Cx} {W : WX} {e : Expr} {st : Stmt}
theorem je_bad : JE X W e badE := ⟨fun pins s σ H Q I h => by
  obtain ⟨P, A, O, ρ, _, z⟩ := h
  exact z.elim⟩
end
/-! ### raise C(e1), C's __init__ walked: self.f1 = f1 -/
def spI1 (C : Addr) (f1 : Str) : Sp := fun vs H Q _ => ∃ a i, vs = [.ref a, .int i] ∧ (0 ≤ i ∧ i < 10) ∧ H a = some (exo a C none) ∧ ∀ dx, H dx = none → dx ≠ a → Q .non (upd (upd H dx (exd dx [(f1, .int i)])) a (exo a C (some dx)))
def throwG (x f1 : Str) (rs : List R) : M Fl := fun ρ => match looks rs ρ with
  | some [.int i] => if 0 ≤ i ∧ i < 10 then .exc ⟨x, [(f1, .int i)]⟩ ρ else .bad
  | _ => .bad
def raiseG (x f1 : Str) (ms : M (List R)) : M Fl := M.bind ms (throwG x f1)
section
variable {X : Cx} {W : WX} {x f1 : Str} {C fI : Addr} {fd : FuncData} {k : Nat} {p pos pos' : PySem.Pos} {e1 : Expr} {ms : M (List R)}
theorem js_raiseG (hc : X.calm = true) (tk : Takes X W) (c : RaO X.K X.mg x f1 f1 C fI) (F1 : FnOk X.prog X.w X.K X.mg X.base (L2.CX X.prog X.w) k fI fd ["self", f1] (spI1 C f1)) (hr : Room (k + 1) X.A) (hb : Binds X.K fd ["self", f1] [])
    (hg : Gl X x) (hdb : (x == ("__debug__" : Str)) = false) (ha : JEs X W [e1] ms) (he : starEach [e1] X.env = (false, eval e1 X.env) :: starEach [] X.env) (hpl : (backTo pos (starEach [] X.env)).any (·.1) = false) :
    JS X W (.Raise (some (.Call (.Name x p) [e1] [] pos)) none pos') (raiseG x f1 ms) :=
  (ps_raise hc tk (pmk_oex c.o c.i c.t F1 hr hb .nil (fun _ _ _ _ _ _ _ ⟨_, _, _, _, _, _, _, _, _, _, _, _, z⟩ => z.elim) hg c.g ha hdb he hpl)).imp fun D σ H h => by
    obtain ⟨P, A, O, ρ, e, h⟩ := h
    refine ⟨P, A, O, ρ, e, (AftS.bind1 (rl := relRs X.K σ) h).mono ?_⟩
    rintro vs H1 ⟨O1, ρ1, rs, F, e1', r1, s1, h1⟩
    unfold throwG at h1
    split at h1
    · rename_i i q
      by_cases hs : 0 ≤ i ∧ i < 10
      · rw [if_pos hs] at h1
        have rp := looks_vr e1'.less r1 q
        cases rp with
        | @cons v1 _ _ _ a1 rp =>
          cases rp
          cases a1.int
          refine ⟨by show 1 ≤ 1000; decide, fun a ha0 => ?_⟩
          refine ⟨a, i, rfl, hs, upd_same, fun dx hdx hne => ⟨rfl, dx, [(f1, .int i)], ?_, ?_, ?_, ?_⟩⟩
          · rw [upd_same]
          · rw [upd_ne hne, upd_same]
          · rw [upd_ne hne] at hdx
            exact hdx
          · rw [upd_ne hne] at hdx
            have eH : upd (del (upd (upd (upd H1 a (exo a C none)) dx (exd dx [(f1, .int i)])) a (exo a C (some dx))) a) dx (.xd [(f1, .int i)]) = upd H1 dx (.xd [(f1, .int i)]) := by
              funext b
              by_cases hb1 : b = dx
              · rw [hb1, upd_same, upd_same]
              · rw [upd_ne hb1, upd_ne hb1]
                by_cases hb2 : b = a
                · rw [hb2, del_same, ha0]
                · rw [del_ne hb2, upd_ne hb2, upd_ne hb1, upd_ne hb2]
            rw [eH]
            have m := upd_more (o := .xd [(f1, .int i)]) hdx
            exact h1 (.ref C) (some dx) σ _ O1 (e1'.less.more m) ⟨c.g, List.cons_ne_nil _ _, _, upd_same, e1'.less.fresh hdx, .cons ⟨rfl, .int i⟩ .nil⟩ (s1.less.trans (Step.more m))
      · rw [if_neg hs] at h1
        exact h1.elim
    · exact h1.elim
end
theorem str_small {i : Int} (h0 : 0 ≤ i) (h1 : i < 10) : ((toString i : String) : Str).length ≤ 1 ∧ i.natAbs.log2 < 1920 := by
  have : i = 0 ∨ i = 1 ∨ i = 2 ∨ i = 3 ∨ i = 4 ∨ i = 5 ∨ i = 6 ∨ i = 7 ∨ i = 8 ∨ i = 9 := by omega
  rcases this with rfl | rfl | rfl | rfl | rfl | rfl | rfl | rfl | rfl | rfl <;> exact ⟨by decide +kernel, by decide +kernel⟩
/-- __init__(self, at): B.__init__(self, "text" + str(at)); self.at = at -/
theorem init1_ok {P : Program} {w : World} {K : PySem.W.Frag} {mg : Str → Option Value} {base : Heap} {x qual b f1 txt : Str} {params : Arguments} {scope : Scope} {f C B : Addr} {fd : FuncData} {k jc : Nat}
    {q1 q2 q3 q4 q5 q6 q7 q8 q9 qa qb qc qd qe : PySem.Pos} (hc : OexC K C) (n1 : PySem.W.findIn K (.ref C) f1 = some none) (cB : InB K mg b B) (hbd : (b == ("__debug__" : Str)) = false) (hms : mg "str" = none) (htx : txt.length ≤ 1000)
    (F : FunD K x qual params [.Expr (.Call (.Attribute (.Name b q1) "__init__" q2) [.Name "self" q3, .BinOp (.Constant (.str txt) jc q4) .Add (.Call (.Name "str" qb) [.Name f1 qc] [] qd) q8] [] q5) q6, .Assign [.Attribute (.Name "self" q7) f1 q9] (.Name f1 qa) qe] scope [] [] f fd)
    (S : FnScope ["self", f1] ["self", f1] scope) (v0 : Vis scope "self") (v1 : Vis scope f1) (hd1 : (f1 == ("__debug__" : Str)) = false) (hcd1 : (f1 == ("__classdict__" : Str)) = false)
    (hgl : ∀ (cdv : Value) (A : Around) (outer : List Env) (s : Shared) (H : Hp) (E : XK), Gl (cxOf (L2.CX P w) P w K mg base ["self", f1] qual scope f cdv A outer s H E) b ∧ Gl (cxOf (L2.CX P w) P w K mg base ["self", f1] qual scope f cdv A outer s H E) "str")
    (ht : ∀ (cdv : Value) (A : Around) (outer : List Env) (s : Shared) (H : Hp) (E : XK), ∃ pl : Sem Bool, eval (.Call (.Attribute (.Name b q1) "__init__" q2) [.Name "self" q3, .BinOp (.Constant (.str txt) jc q4) .Add (.Call (.Name "str" qb) [.Name f1 qc] [] qd) q8] [] q5) (cxOf (L2.CX P w) P w K mg base ["self", f1] qual scope f cdv A outer s H E).env = (do
      let ov ← eval (.Name b q1) (cxOf (L2.CX P w) P w K mg base ["self", f1] qual scope f cdv A outer s H E).env
      standAt q2.atName
      let (fv, first) ← holding [ov] (getMethod ov "__init__" pl)
      callWith q5 fv first (backTo q5 (starEach [.Name "self" q3, .BinOp (.Constant (.str txt) jc q4) .Add (.Call (.Name "str" qb) [.Name f1 qc] [] qd) q8] (cxOf (L2.CX P w) P w K mg base ["self", f1] qual scope f cdv A outer s H E).env)) (backToKw q5 (keywordEach [] (cxOf (L2.CX P w) P w K mg base ["self", f1] qual scope f cdv A outer s H E).env)))) :
    FnOk P w K mg base (L2.CX P w) (k + 1) f fd ["self", f1] (spI1 C f1) := by
  refine F.ok S (fun vs H Q E h => ?_) (fun cdv A outer s H vs Q E hr h => ?_)
  · obtain ⟨a, i, rfl, _⟩ := h
    rfl
  · obtain ⟨pl, hev⟩ := ht cdv A outer s H E
    obtain ⟨hg1, hg2⟩ := hgl cdv A outer s H E
    refine ⟨_, pss_cons (ps_expr (pe_beinit cB hg1 hbd (pa_cons (pe_var (i := 0) rfl v0 rfl rfl) (pa_cons (pe_op op_add_str pe_str (pe_callTy call_str_int hg2 hms (by decide +kernel) (pa_cons (pe_var (i := 1) rfl v1 hd1 hcd1) pa_nil rfl) (by decide) (by decide) rfl rfl)) pa_nil rfl) rfl) hev rfl rfl) rfl)
      (pss_one (ps_ost (f := f1) (pe_var (i := 0) rfl v0 rfl rfl) (pe_var (i := 1) rfl v1 hd1 hcd1) rfl)), ?_⟩
    obtain ⟨a, i, rfl, hi, ha, hq⟩ := h
    obtain ⟨s1, s2⟩ := str_small hi.1 hi.2
    refine ⟨_, rfl, _, rfl, i, rfl, s2, txt, _, rfl, rfl, ?_, a, C, [_], rfl, (by show 1 ≤ 1000; decide), hc, ha, ?_⟩
    · have := sizeLine_big (n := 1001) (by decide)
      omega
    refine ⟨_, rfl, _, rfl, a, C, rfl, hc, n1, .inl ⟨ha, fun dx hn hne => ?_⟩⟩
    exact hq dx hn hne
end DL

set_option Elab.async false
set_option maxRecDepth 100000
set_option maxHeartbeats 4000000
namespace DL
open PySem PySem.Spec PyProof.Rows L2
/-! ### try .. except C as n, one field told -/
abbrev SufR (i : Nat) (a dd : Addr) (fs : List (Str × V)) (v1 : V) : TS := fun E σ H => Ga i a dd fs σ H ∧ ∀ H', Gr H H' → E.rt v1 H'
theorem pss_never {X : Cx} {sts : List Stmt} : PSs X sts (fun _ _ _ => False) := ⟨fun pins s σ H D I h => h.elim⟩
theorem suiteR1 {X : Cx} {i : Nat} {a dd : Addr} {fs : List (Str × V)} {c r1 : Expr} {rest : List Stmt} {q3 q4 : PySem.Pos} {v1 : V} {cc : Bool}
    (h3 : JCT (Ga i a dd fs) X c cc) (hcc : cc = true) (l1 : JC (Ga i a dd fs) X r1 v1) :
    PSs X (.If c [.Return (some r1) q3] [] q4 :: rest) (SufR i a dd fs v1) :=
  (pss_cons (ps_if h3 (pss_one (ps_ret l1)) pss_nil) (pss_never (sts := rest))).imp fun D σ H h => by
    obtain ⟨g, h⟩ := h
    refine ⟨g, fun H3 r3' => ?_⟩
    show (if cc = true then _ else _)
    rw [if_pos hcc]
    exact ⟨Ga.stb _ _ _ g r3', fun H4 r4' => h H4 (r3'.trans r4')⟩
def tryG (i : Nat) (mt : Str → Option Bool) (mb : M Fl) (f1 : Str) : M Fl := fun ρ => match mb ρ with
  | .exc x ρ1 => (match mt x.cls with
    | some true => (match x.fs.lookup f1 with
      | some d1 => if i < ρ1.length then .ok (.rt (.tmp (.val d1))) ρ1 else .bad
      | _ => .bad)
    | some false => .exc x ρ1
    | none => .bad)
  | o => o
section
variable {X : Cx} {W : WX} {i : Nat} {n x : Str} {C : Addr} {b₀ : Stmt} {body suite : List Stmt} {np pos pos' : PySem.Pos} {l : List (Str × Bool)} {mb ms : M Fl} {f1 : Str}
theorem js_tryG (hs : X.stack = X.env :: X.outer) (hf : X.env.frame = some X.env.locals) (hN : X.N.Nodup) (hi : X.N[i]? = some n) (hln : X.env.kindOf n = some .local) (hg : Gl X x) (hdb : (x == ("__debug__" : Str)) = false) (hm : X.mg x = some (.ref C)) (tk : Takes X W)
    (hmt : Hmt X.K X.mg (.ref C) l) (hone : (l.all fun p => !p.2 || p.1 == x) = true)
    (hb : ∀ (W : WX) (pn : List (Addr × Obj)) (xe : Value → Shared → Prop), Takes (X.tr pn xe) W → PassesOwn (model X.prog X.w) X.A X.env xe → JSs (X.tr pn xe) W body mb)
    (hsu : ∀ (a : Addr) (oe : Obj) (pn : List (Addr × Obj)) (dd : Addr) (fs : List (Str × V)) (v1 : V), Zc (.ref C) (some dd) oe → (∃ vs, oe.data = .fields vs) → fs.lookup f1 = some v1 → PSs (X.suite a ((a, oe) :: pn)) (b₀ :: suite) (SufR i a dd fs v1)) :
    JS X W (.Try body [.ExceptHandler (some (.Name x np)) (some n) (b₀ :: suite) pos'] [] [] pos) (tryG i (clsOf l) mb f1) :=
  (ps_try_as (tb := fun _ => tS X.K X.mg _ mb) (ts := fun a cls d => fun E σ H => ∃ dd fs v1, cls = .ref C ∧ d = some dd ∧ fs.lookup f1 = some v1 ∧ SufR i a dd fs v1 E σ H) hs hf hN hi hln ⟨hg, hdb, .inl hm⟩ tk hb
    (fun a oe cls d pn hz hv => ⟨fun pins s σ H E I z => by
      obtain ⟨dd, fs, v1, rfl, rfl, k1, z⟩ := z
      exact (hsu a oe pn dd fs v1 hz hv k1).run pins s σ H E I z⟩)).imp fun D σ H h => by
    obtain ⟨P, A, O, ρ, e, h⟩ := h
    refine ⟨P, A, O, ρ, e, ?_⟩
    unfold tryG at h
    cases q : mb ρ with
    | bad =>
      rw [q] at h
      exact h
    | ok fl ρ1 =>
      rw [q] at h
      cases fl <;> exact h
    | exc y ρ1 =>
      rw [q] at h
      dsimp only at h
      intro cls d σ1 H1 O1 e1 ex s1
      cases qm : clsOf l y.cls with
      | none =>
        rw [qm] at h
        exact h.elim
      | some b =>
        rw [qm] at h
        refine ⟨b, hmt.ok _ _ _ qm ex.1, fun hb a ha => ?_, fun hb => ?_⟩
        · subst hb
          dsimp only at h
          have hy : y.cls = x := one_of hone y.cls qm
          have hcls : cls = .ref C := by
            have := ex.1
            rw [hy, hm] at this
            exact (Option.some.inj this).symm
          cases k1 : y.fs.lookup f1 with
          | none =>
            rw [k1] at h
            exact h.elim
          | some d1 =>
            rw [k1] at h
            dsimp only at h
            by_cases hx : i < ρ1.length
            · rw [if_pos hx] at h
              cases d with
              | none =>
                have := ex.2
                dsimp only at this
                rw [this] at k1
                cases k1
              | some dd =>
                obtain ⟨_, fs, hdd, hnz, rp⟩ := ex.2
                obtain ⟨v1, w1, r1⟩ := pair_lookup rp k1
                have hli : i < σ1.length := by rw [← e1.len]; exact hx
                refine ⟨dd, fs, v1, hcls, rfl, w1, ⟨by simp [hli], hdd⟩, fun H' gr => ?_⟩
                have m : ∀ a o, wo (O1 ++ P) H1 a = some o → wo (O1 ++ P) H' a = some o := fun a o z => by
                  obtain ⟨z1, z2⟩ := wo_some.mp z
                  exact wo_some.mpr ⟨z1, gr _ _ z2⟩
                exact h v1 σ1 H' O1 [] (e1.more gr) (rr_val (r1.mono m)) (s1.trans (Step.more gr))
            · rw [if_neg hx] at h
              exact h.elim
        · subst hb
          exact h cls d σ1 H1 O1 e1 ex s1
end
/-! ### try .. except C: -/
def noX : Out Fl → Out Fl
  | .exc _ _ => .bad
  | o => o
def tryO (mt : Str → Option Bool) (mb ms : M Fl) : M Fl := fun ρ => match mb ρ with
  | .exc x ρ1 => (match mt x.cls with
    | some true => noX (ms ρ1)
    | some false => .exc x ρ1
    | none => .bad)
  | o => o
section
variable {X : Cx} {W : WX} {x : Str} {C : Addr} {b₀ : Stmt} {body suite : List Stmt} {np pos pos' : PySem.Pos} {l : List (Str × Bool)} {mb ms : M Fl}
theorem js_tryO (hs : X.stack = X.env :: X.outer) (hf : X.env.frame = some X.env.locals) (hg : Gl X x) (hdb : (x == ("__debug__" : Str)) = false) (hm : X.mg x = some (.ref C)) (tk : Takes X W)
    (hmt : Hmt X.K X.mg (.ref C) l)
    (hb : ∀ (W : WX) (pn : List (Addr × Obj)) (xe : Value → Shared → Prop), Takes (X.tr pn xe) W → PassesOwn (model X.prog X.w) X.A X.env xe → JSs (X.tr pn xe) W body mb)
    (hsu : ∀ (a : Addr) (oe : Obj) (pn : List (Addr × Obj)), JSs (X.suite a ((a, oe) :: pn)) W0 (b₀ :: suite) ms) :
    JS X W (.Try body [.ExceptHandler (some (.Name x np)) none (b₀ :: suite) pos'] [] [] pos) (tryO (clsOf l) mb ms) :=
  (ps_try_only (tb := fun _ => tS X.K X.mg _ mb) (ts := fun _ _ _ => tS X.K X.mg W0 ms) hs hf ⟨hg, hdb, .inl hm⟩ tk hb
    (fun a oe cls d pn hz hv => hsu a oe pn)).imp fun D σ H h => by
    obtain ⟨P, A, O, ρ, e, h⟩ := h
    refine ⟨P, A, O, ρ, e, ?_⟩
    unfold tryO at h
    cases q : mb ρ with
    | bad =>
      rw [q] at h
      exact h
    | ok fl ρ1 =>
      rw [q] at h
      cases fl <;> exact h
    | exc y ρ1 =>
      rw [q] at h
      dsimp only at h
      intro cls d σ1 H1 O1 e1 ex s1
      cases qm : clsOf l y.cls with
      | none =>
        rw [qm] at h
        exact h.elim
      | some b =>
        rw [qm] at h
        refine ⟨b, hmt.ok _ _ _ qm ex.1, fun hb a ha => ?_, fun hb => ?_⟩
        · subst hb
          dsimp only at h
          refine ⟨P, A, O1, ρ1, e1, ?_⟩
          cases q2 : ms ρ1 with
          | bad => rw [q2] at h; exact h.elim
          | exc z ρ2 => rw [q2] at h; exact h.elim
          | ok fl ρ2 =>
            rw [q2] at h
            cases fl with
            | nx => exact fun σ2 H2 O2 e2 s2 => h _ H2 O2 e2 (s1.trans s2)
            | bk => exact fun σ2 H2 O2 e2 s2 => h _ H2 O2 e2 (s1.trans s2)
            | ct => exact fun σ2 H2 O2 e2 s2 => h _ H2 O2 e2 (s1.trans s2)
            | rt r => exact fun v σ2 H2 O2 F e2 r2 s2 => h v σ2 H2 O2 F e2 r2 (s1.trans s2)
        · subst hb
          exact h cls d σ1 H1 O1 e1 ex s1
end
/-! ### the head's hook, with tables and the interpreter's statics -/
def obsYS (n : Nat) (fx : PySem.W.Frag → Bool) (fa : List He.Fa) (fn : List He.DefD) (ts : List TabN) (g : Addr → Option Obj) : AlY := obsY fx fa fn ts (He.frG g (asS g n))
def hookYS (n : Nat) (fx : PySem.W.Frag → Bool) (fa : List He.Fa) (fn : List He.DefD) (ts : List TabN) : PySem.W.Hook where
  α := AlY
  obs := fun s => obsYS n fx fa fn ts s.heap.get?
  val := fun w => valY fn ts w
  says := fun w h => ∃ K : PySem.W.Frag, K.In h ∧ SaysY fx fa fn ts w K
  of := fun _ _ e => ⟨_, He.frG_in, e⟩
  keeps := fun _ _ _ ⟨K, hK, c⟩ k => ⟨K, PySem.W.Frag.In.keeps hK k, c⟩
theorem obsYS_eq {n : Nat} {fx : PySem.W.Frag → Bool} {fa : List He.Fa} {fn : List He.DefD} {ts : List TabN} {g : Addr → Option Obj} {s : Shared} (h : ∀ a, g a = s.heap.get? a) : obsYS n fx fa fn ts g = (hookYS n fx fa fn ts).obs s := by
  have e : g = s.heap.get? := funext h
  rw [e] <;> rfl
end DL

set_option Elab.async false
set_option maxRecDepth 100000
set_option maxHeartbeats 4000000
namespace DL
open PySem L2
/-! ### running: lent lists that tell a thing; exceptions with fields -/
def lnmR (i : Nat) (tag : Option Nat) (ρ : Rho) : Option (List D × D) → Out R
  | some p => .ok (.tmp (.val p.2)) (ρ.set i (some (.lst tag p.1)))
  | none => .bad
def lnmO (f : List D → List D → Option (List D × D)) (i : Nat) (ρ : Rho) : Option (Option T) → Option (List D) → Out R
  | some (some (.lst tag es)), some ds => if ds.all scalD = true then lnmR i tag ρ (f es ds) else .bad
  | _, _ => .bad
@[simp] theorem callMM_ap (f : List D → List D → Option (List D × D)) (i : Nat) (rs : List R) (ρ : Rho) : callMM f (.slot i :: rs) ρ = lnmO f i ρ ρ[i]? (looks rs ρ) := by
  unfold callMM
  dsimp only
  generalize ρ[i]? = a
  generalize looks rs ρ = b
  match a with
  | none => rfl
  | some none => rfl
  | some (some (.val _)) => rfl
  | some (some (.lst tag es)) =>
    cases b with
    | none => rfl
    | some ds =>
      show (if _ then _ else _) = lnmO f i ρ (some (some (.lst tag es))) (some ds)
      unfold lnmO
      by_cases h : ds.all scalD = true
      · simp only [if_pos h]
        cases h2 : f es ds <;> simp only [h2] <;> rfl
      · simp only [if_neg h]
@[simp] theorem lnmO_ok (f : List D → List D → Option (List D × D)) (i : Nat) (ρ : Rho) (tag : Option Nat) (es ds : List D) : lnmO f i ρ (some (some (.lst tag es))) (some ds) = if ds.all scalD = true then lnmR i tag ρ (f es ds) else .bad := (rfl)
@[simp] theorem lnmR_some (i : Nat) (tag : Option Nat) (ρ : Rho) (es : List D) (d : D) : lnmR i tag ρ (some (es, d)) = .ok (.tmp (.val d)) (ρ.set i (some (.lst tag es))) := (rfl)
theorem runM_eq (n : Nat) (m : M Fl) (es ds : List D) : runM n m es ds = finM (m ((some (.lst (some 0) es) :: ds.map (fun d => some (T.val d))) ++ List.replicate n none)) := (rfl)
@[simp] theorem finM_nx (es : List D) (l : Rho) : finM (.ok .nx (some (.lst (some 0) es) :: l)) = some (es, .none) := (rfl)
@[simp] theorem finM_tmp (es : List D) (l : Rho) (d : D) : finM (.ok (.rt (.tmp (.val d))) (some (.lst (some 0) es) :: l)) = some (es, d) := (rfl)
@[simp] theorem finM_slot (es : List D) (l : Rho) (i : Nat) : finM (.ok (.rt (.slot i)) (some (.lst (some 0) es) :: l)) = valO (some (.lst (some 0) es) :: l) (some (T.lst (some 0) es) :: l : Rho)[i]? := (rfl)
@[simp] theorem valO_val (es : List D) (l : Rho) (d : D) : valO (some (.lst (some 0) es) :: l) (some (some (T.val d))) = some (es, d) := (rfl)
def thrO (x f1 f2 : Str) (ρ : Rho) : Option (List D) → Out Fl
  | some [d1, d2] => if scalD d1 = true ∧ scalD d2 = true then .exc ⟨x, [(f2, d2), (f1, d1)]⟩ ρ else .bad
  | _ => .bad
@[simp] theorem raiseF_ap (x f1 f2 : Str) (ms : M (List R)) (ρ : Rho) : raiseF x f1 f2 ms ρ = (ms ρ).bnd fun rs ρ => throwF x f1 f2 rs ρ := (rfl)
@[simp] theorem throwF_ap (x f1 f2 : Str) (rs : List R) (ρ : Rho) : throwF x f1 f2 rs ρ = thrO x f1 f2 ρ (looks rs ρ) := by
  unfold throwF thrO
  cases looks rs ρ <;> rfl
@[simp] theorem thrO_some (x f1 f2 : Str) (ρ : Rho) (d1 d2 : D) : thrO x f1 f2 ρ (some [d1, d2]) = if scalD d1 = true ∧ scalD d2 = true then .exc ⟨x, [(f2, d2), (f1, d1)]⟩ ρ else .bad := (rfl)
def thgO (x f1 : Str) (ρ : Rho) : Option (List D) → Out Fl
  | some [.int i] => if 0 ≤ i ∧ i < 10 then .exc ⟨x, [(f1, .int i)]⟩ ρ else .bad
  | _ => .bad
@[simp] theorem raiseG_ap (x f1 : Str) (ms : M (List R)) (ρ : Rho) : raiseG x f1 ms ρ = (ms ρ).bnd fun rs ρ => throwG x f1 rs ρ := (rfl)
@[simp] theorem throwG_ap (x f1 : Str) (rs : List R) (ρ : Rho) : throwG x f1 rs ρ = thgO x f1 ρ (looks rs ρ) := by
  unfold throwG thgO
  cases looks rs ρ <;> rfl
@[simp] theorem thgO_some (x f1 : Str) (ρ : Rho) (i : Int) : thgO x f1 ρ (some [.int i]) = if 0 ≤ i ∧ i < 10 then .exc ⟨x, [(f1, .int i)]⟩ ρ else .bad := (rfl)
theorem tryO_exc {mt : Str → Option Bool} {mb ms : M Fl} {x : XD} {ρ ρ1 : Rho} (h : mb ρ = .exc x ρ1) (hm : mt x.cls = some true) : tryO mt mb ms ρ = noX (ms ρ1) := by
  unfold tryO
  rw [h]
  dsimp only
  rw [hm]
theorem tryO_ok {mt : Str → Option Bool} {mb ms : M Fl} {fl : Fl} {ρ ρ1 : Rho} (h : mb ρ = .ok fl ρ1) : tryO mt mb ms ρ = .ok fl ρ1 := by
  unfold tryO
  rw [h]
@[simp] theorem noX_ok (fl : Fl) (ρ : Rho) : noX (.ok fl ρ) = .ok fl ρ := (rfl)
theorem tryG_exc {i : Nat} {mt : Str → Option Bool} {mb : M Fl} {f1 : Str} {x : XD} {ρ ρ1 : Rho} {d : D} (h : mb ρ = .exc x ρ1) (hm : mt x.cls = some true) (hf : x.fs.lookup f1 = some d) (hi : i < ρ1.length) : tryG i mt mb f1 ρ = .ok (.rt (.tmp (.val d))) ρ1 := by
  unfold tryG
  rw [h]
  dsimp only
  rw [hm]
  dsimp only
  rw [hf]
  dsimp only
  rw [if_pos hi]
theorem tryG_ok {i : Nat} {mt : Str → Option Bool} {mb : M Fl} {f1 : Str} {fl : Fl} {ρ ρ1 : Rho} (h : mb ρ = .ok fl ρ1) : tryG i mt mb f1 ρ = .ok fl ρ1 := by
  unfold tryG
  rw [h]
/-- the last one popped -/
theorem fPop_ints (l : List Int) (x : Int) : fPop ((l ++ [x]).map PyData.int) [] = some (l.map .int, .int x) := by
  rw [List.map_append]
  exact fPop_snoc _ _
theorem snocI {l : List Int} (h : 1 ≤ l.length) : ∃ l' x, l = l' ++ [x] := by
  rcases List.eq_nil_or_concat l with rfl | ⟨l', x, rfl⟩
  · simp at h
  · exact ⟨l', x, by simp⟩
end DL

set_option Elab.async false
set_option maxRecDepth 100000
set_option maxHeartbeats 4000000
namespace K84
open PySem PySem.Spec PyProof.Rows L2 DL
/-! ### the text -/
def top (i : Nat) : Stmt := PySem.Challenge.pw_fanglue_k84_things_as_papers.main.body.getD i (.Pass ⟨0, 0, 0, 0⟩)
abbrev s__law_cell : Stmt := top 80
theorem sc__law_cell : FnScope ["_law_script", "_law_k"] ["_law_script", "_law_k"] (defScope s__law_cell) := ⟨rfl, rfl, rfl, by decide +kernel, rfl, by decide +kernel, by decide +kernel⟩
abbrev s__law_mixed : Stmt := top 82
theorem sc__law_mixed : FnScope ["_law_cell_here", "_law_base", "_law_many", "_law_row_here", "_law_k", "_law_one", "_law_two"] ["_law_cell_here", "_law_base", "_law_many"] (defScope s__law_mixed) := ⟨rfl, rfl, rfl, by decide +kernel, rfl, by decide +kernel, by decide +kernel⟩
abbrev s__law_digits : Stmt := top 81
theorem sc__law_digits : FnScope ["_law_cell_here", "_law_base", "_law_many", "_law_row_here", "_law_k"] ["_law_cell_here", "_law_base", "_law_many"] (defScope s__law_digits) := ⟨rfl, rfl, rfl, by decide +kernel, rfl, by decide +kernel, by decide +kernel⟩
abbrev s__law_row : Stmt := top 83
theorem sc__law_row : FnScope ["_law_cell_here", "_law_base", "_law_many"] ["_law_cell_here", "_law_base", "_law_many"] (defScope s__law_row) := ⟨rfl, rfl, rfl, by decide +kernel, rfl, by decide +kernel, by decide +kernel⟩
abbrev s__law_thing : Stmt := top 85
theorem sc__law_thing : FnScope ["_law_digits_here", "_law_deep", "_law_way", "_law_inner", "_law_k"] ["_law_digits_here", "_law_deep"] (defScope s__law_thing) := ⟨rfl, rfl, rfl, by decide +kernel, rfl, by decide +kernel, by decide +kernel⟩
abbrev s_ask : Stmt := top 66
theorem sc_ask : FnScope ["holds", "at"] ["holds", "at"] (defScope s_ask) := ⟨rfl, rfl, rfl, by decide +kernel, rfl, by decide +kernel, by decide +kernel⟩
abbrev s_is_whole : Stmt := top 9
theorem sc_is_whole : FnScope ["thing"] ["thing"] (defScope s_is_whole) := ⟨rfl, rfl, rfl, by decide +kernel, rfl, by decide +kernel, by decide +kernel⟩
abbrev s_common_part : Stmt := top 10
theorem sc_common_part : FnScope ["one", "other"] ["one", "other"] (defScope s_common_part) := ⟨rfl, rfl, rfl, by decide +kernel, rfl, by decide +kernel, by decide +kernel⟩
abbrev s_is_fraction : Stmt := top 11
theorem sc_is_fraction : FnScope ["thing"] ["thing"] (defScope s_is_fraction) := ⟨rfl, rfl, rfl, by decide +kernel, rfl, by decide +kernel, by decide +kernel⟩
abbrev s_cross : Stmt := top 12
theorem sc_cross : FnScope ["one", "other"] ["one", "other"] (defScope s_cross) := ⟨rfl, rfl, rfl, by decide +kernel, rfl, by decide +kernel, by decide +kernel⟩
abbrev s_are_neighbours : Stmt := top 13
theorem sc_are_neighbours : FnScope ["one", "other"] ["one", "other"] (defScope s_are_neighbours) := ⟨rfl, rfl, rfl, by decide +kernel, rfl, by decide +kernel, by decide +kernel⟩
abbrev s_is_above : Stmt := top 14
theorem sc_is_above : FnScope ["one", "other"] ["one", "other"] (defScope s_is_above) := ⟨rfl, rfl, rfl, by decide +kernel, rfl, by decide +kernel, by decide +kernel⟩
abbrev s_fits_fraction : Stmt := top 30
theorem sc_fits_fraction : FnScope ["fractions", "i", "here"] ["fractions", "i"] (defScope s_fits_fraction) := ⟨rfl, rfl, rfl, by decide +kernel, rfl, by decide +kernel, by decide +kernel⟩
abbrev s_look_at_fractions : Stmt := top 32
theorem sc_look_at_fractions : FnScope ["fractions", "i"] ["fractions"] (defScope s_look_at_fractions) := ⟨rfl, rfl, rfl, by decide +kernel, rfl, by decide +kernel, by decide +kernel⟩
abbrev s_fits_mark : Stmt := top 31
theorem sc_fits_mark : FnScope ["marks", "i", "mark"] ["marks", "i"] (defScope s_fits_mark) := ⟨rfl, rfl, rfl, by decide +kernel, rfl, by decide +kernel, by decide +kernel⟩
abbrev s_many_places : Stmt := top 29
theorem sc_many_places : FnScope ["fan", "fractions", "marks", "mark"] ["fan"] (defScope s_many_places) := ⟨rfl, rfl, rfl, by decide +kernel, rfl, by decide +kernel, by decide +kernel⟩
abbrev s_look : Stmt := top 33
theorem sc_look : FnScope ["thing", "i", "fractions", "marks", "part"] ["thing"] (defScope s_look) := ⟨rfl, rfl, rfl, by decide +kernel, rfl, by decide +kernel, by decide +kernel⟩
abbrev s_is_fan : Stmt := top 67
theorem sc_is_fan : FnScope ["thing"] ["thing"] (defScope s_is_fan) := ⟨rfl, rfl, rfl, by decide +kernel, rfl, by decide +kernel, by decide +kernel⟩
abbrev s_is_turning : Stmt := top 20
theorem sc_is_turning : FnScope ["thing", "a", "b", "c", "d", "number"] ["thing"] (defScope s_is_turning) := ⟨rfl, rfl, rfl, by decide +kernel, rfl, by decide +kernel, by decide +kernel⟩
abbrev s_own_power : Stmt := top 41
theorem sc_own_power : FnScope ["fan", "gap", "power", "mark"] ["fan", "gap", "power"] (defScope s_own_power) := ⟨rfl, rfl, rfl, by decide +kernel, rfl, by decide +kernel, by decide +kernel⟩
abbrev s_is_short_row : Stmt := top 42
theorem sc_is_short_row : FnScope ["fan", "glues", "one", "other", "gap", "power"] ["fan", "glues"] (defScope s_is_short_row) := ⟨rfl, rfl, rfl, by decide +kernel, rfl, by decide +kernel, by decide +kernel⟩
abbrev s_is_glue : Stmt := top 68
theorem sc_is_glue : FnScope ["fan", "thing", "number"] ["fan", "thing"] (defScope s_is_glue) := ⟨rfl, rfl, rfl, by decide +kernel, rfl, by decide +kernel, by decide +kernel⟩
abbrev s_are_glues : Stmt := top 69
theorem sc_are_glues : FnScope ["fan", "thing", "one"] ["fan", "thing"] (defScope s_are_glues) := ⟨rfl, rfl, rfl, by decide +kernel, rfl, by decide +kernel, by decide +kernel⟩
abbrev s_turning : Stmt := top 21
theorem sc_turning : FnScope ["a", "b", "c", "d"] ["a", "b", "c", "d"] (defScope s_turning) := ⟨rfl, rfl, rfl, by decide +kernel, rfl, by decide +kernel, by decide +kernel⟩
abbrev s_times : Stmt := top 22
theorem sc_times : FnScope ["one", "other", "a", "b", "c", "d", "e", "f", "g", "h"] ["one", "other"] (defScope s_times) := ⟨rfl, rfl, rfl, by decide +kernel, rfl, by decide +kernel, by decide +kernel⟩
abbrev s_contrary : Stmt := top 23
theorem sc_contrary : FnScope ["one", "a", "b", "c", "d"] ["one"] (defScope s_contrary) := ⟨rfl, rfl, rfl, by decide +kernel, rfl, by decide +kernel, by decide +kernel⟩
abbrev s_power_of : Stmt := top 39
theorem sc_power_of : FnScope ["one", "power", "found"] ["one", "power"] (defScope s_power_of) := ⟨rfl, rfl, rfl, by decide +kernel, rfl, by decide +kernel, by decide +kernel⟩
abbrev s_gap_edge : Stmt := top 34
theorem sc_gap_edge : FnScope ["fan", "gap", "fractions"] ["fan", "gap"] (defScope s_gap_edge) := ⟨rfl, rfl, rfl, by decide +kernel, rfl, by decide +kernel, by decide +kernel⟩
abbrev s_turning_between : Stmt := top 24
theorem sc_turning_between : FnScope ["one", "other", "by"] ["one", "other"] (defScope s_turning_between) := ⟨rfl, rfl, rfl, by decide +kernel, rfl, by decide +kernel, by decide +kernel⟩
abbrev s_gap_turning : Stmt := top 35
theorem sc_gap_turning : FnScope ["fan", "gap", "one", "other"] ["fan", "gap"] (defScope s_gap_turning) := ⟨rfl, rfl, rfl, by decide +kernel, rfl, by decide +kernel, by decide +kernel⟩
abbrev s_carried : Stmt := top 37
theorem sc_carried : FnScope ["one", "inner"] ["one", "inner"] (defScope s_carried) := ⟨rfl, rfl, rfl, by decide +kernel, rfl, by decide +kernel, by decide +kernel⟩
abbrev s_glue : Stmt := top 38
theorem sc_glue : FnScope ["fan", "gap", "mark", "here"] ["fan", "gap"] (defScope s_glue) := ⟨rfl, rfl, rfl, by decide +kernel, rfl, by decide +kernel, by decide +kernel⟩
abbrev s_row_turning : Stmt := top 40
theorem sc_row_turning : FnScope ["fan", "glues", "found", "gap", "power"] ["fan", "glues"] (defScope s_row_turning) := ⟨rfl, rfl, rfl, by decide +kernel, rfl, by decide +kernel, by decide +kernel⟩
abbrev s_look_in : Stmt := top 73
theorem sc_look_in : FnScope ["fan", "one", "glues"] ["fan", "one", "glues"] (defScope s_look_in) := ⟨rfl, rfl, rfl, by decide +kernel, rfl, by decide +kernel, by decide +kernel⟩
abbrev s_met_from : Stmt := top 59
theorem sc_met_from : FnScope ["halves", "thirds", "first", "met", "seen", "at", "other"] ["halves", "thirds", "first"] (defScope s_met_from) := ⟨rfl, rfl, rfl, by decide +kernel, rfl, by decide +kernel, by decide +kernel⟩
abbrev s_goes_back : Stmt := top 58
theorem sc_goes_back : FnScope ["exchange", "times", "place", "here", "turn"] ["exchange", "times"] (defScope s_goes_back) := ⟨rfl, rfl, rfl, by decide +kernel, rfl, by decide +kernel, by decide +kernel⟩
abbrev s_is_number : Stmt := top 57
theorem sc_is_number : FnScope ["thing", "many"] ["thing", "many"] (defScope s_is_number) := ⟨rfl, rfl, rfl, by decide +kernel, rfl, by decide +kernel, by decide +kernel⟩
abbrev s_is_table : Stmt := top 60
theorem sc_is_table : FnScope ["thing", "many", "halves", "thirds", "one"] ["thing"] (defScope s_is_table) := ⟨rfl, rfl, rfl, by decide +kernel, rfl, by decide +kernel, by decide +kernel⟩
abbrev s_is_word : Stmt := top 49
theorem sc_is_word : FnScope ["thing", "letter"] ["thing"] (defScope s_is_word) := ⟨rfl, rfl, rfl, by decide +kernel, rfl, by decide +kernel, by decide +kernel⟩
abbrev s_word_leads : Stmt := top 70
theorem sc_word_leads : FnScope ["table", "word", "place", "letter", "halves", "thirds"] ["table", "word"] (defScope s_word_leads) := ⟨rfl, rfl, rfl, by decide +kernel, rfl, by decide +kernel, by decide +kernel⟩
abbrev s_look_out : Stmt := top 74
theorem sc_look_out : FnScope ["table", "word", "place"] ["table", "word", "place"] (defScope s_look_out) := ⟨rfl, rfl, rfl, by decide +kernel, rfl, by decide +kernel, by decide +kernel⟩
abbrev s_put_behind : Stmt := top 50
theorem sc_put_behind : FnScope ["row", "letter", "both"] ["row", "letter"] (defScope s_put_behind) := ⟨rfl, rfl, rfl, by decide +kernel, rfl, by decide +kernel, by decide +kernel⟩
abbrev s_shortened : Stmt := top 51
theorem sc_shortened : FnScope ["word", "row", "letter"] ["word"] (defScope s_shortened) := ⟨rfl, rfl, rfl, by decide +kernel, rfl, by decide +kernel, by decide +kernel⟩
abbrev s_steps_word : Stmt := top 52
theorem sc_steps_word : FnScope ["many"] ["many"] (defScope s_steps_word) := ⟨rfl, rfl, rfl, by decide +kernel, rfl, by decide +kernel, by decide +kernel⟩
abbrev s_steps_of : Stmt := top 53
theorem sc_steps_of : FnScope ["one", "found", "many", "a", "b", "c", "d", "step"] ["one"] (defScope s_steps_of) := ⟨rfl, rfl, rfl, by decide +kernel, rfl, by decide +kernel, by decide +kernel⟩
abbrev s_word_of : Stmt := top 54
theorem sc_word_of : FnScope ["one", "word", "step"] ["one"] (defScope s_word_of) := ⟨rfl, rfl, rfl, by decide +kernel, rfl, by decide +kernel, by decide +kernel⟩
abbrev s_short_word : Stmt := top 71
theorem sc_short_word : FnScope ["one"] ["one"] (defScope s_short_word) := ⟨rfl, rfl, rfl, by decide +kernel, rfl, by decide +kernel, by decide +kernel⟩
abbrev s_keeps : Stmt := top 72
theorem sc_keeps : FnScope ["table", "one", "word"] ["table", "one"] (defScope s_keeps) := ⟨rfl, rfl, rfl, by decide +kernel, rfl, by decide +kernel, by decide +kernel⟩
abbrev s_look_same : Stmt := top 75
theorem sc_look_same : FnScope ["fan", "table", "gap"] ["fan", "table"] (defScope s_look_same) := ⟨rfl, rfl, rfl, by decide +kernel, rfl, by decide +kernel, by decide +kernel⟩
abbrev s_is_nothing_by : Stmt := top 76
theorem sc_is_nothing_by : FnScope ["one", "number", "a", "b", "c", "d"] ["one", "number"] (defScope s_is_nothing_by) := ⟨rfl, rfl, rfl, by decide +kernel, rfl, by decide +kernel, by decide +kernel⟩
abbrev s_look_leaver : Stmt := top 77
theorem sc_look_leaver : FnScope ["table", "number", "one"] ["table", "number", "one"] (defScope s_look_leaver) := ⟨rfl, rfl, rfl, by decide +kernel, rfl, by decide +kernel, by decide +kernel⟩
abbrev s_looked : Stmt := top 78
theorem sc_looked : FnScope ["thing", "kind"] ["thing"] (defScope s_looked) := ⟨rfl, rfl, rfl, by decide +kernel, rfl, by decide +kernel, by decide +kernel⟩
abbrev s__law_failed : Stmt := top 84
theorem sc__law_failed : FnScope ["_law_thing_here", "e"] ["_law_thing_here"] (defScope s__law_failed) := ⟨rfl, rfl, rfl, by decide +kernel, rfl, by decide +kernel, by decide +kernel⟩
abbrev s_law : Stmt := top 86
theorem sc_law : FnScope ["_law_script", "_law_k", "_law_cell_here", "_law_digits_here", "_law_n", "_law_thing_here", "_law_kind", "_law_many", "_law_behind", "_law_place", "_law_due", "_law_one"] ["_law_script"] (defScope s_law) := ⟨rfl, rfl, rfl, by decide +kernel, rfl, by decide +kernel, by decide +kernel⟩
abbrev s_iNoPaper : Stmt := mthAt (top 4) 0
theorem sc_iNoPaper : FnScope ["self", "at"] ["self", "at"] (defScope s_iNoPaper) := ⟨rfl, rfl, rfl, by decide +kernel, rfl, by decide +kernel, by decide +kernel⟩
abbrev s_iNoFan : Stmt := mthAt (top 3) 0
theorem sc_iNoFan : FnScope ["self", "where", "at"] ["self", "where", "at"] (defScope s_iNoFan) := ⟨rfl, rfl, rfl, by decide +kernel, rfl, by decide +kernel, by decide +kernel⟩
abbrev FnP (K : PySem.W.Frag) (x : Str) (st : Stmt) (f : Addr) (fd : FuncData) : Prop := FunD K x x (defArgs st) (defBody st) (defScope st) [] [] f fd
structure Facts (w : World) (K : PySem.W.Frag) (mg : Str → Option Value) where
  f__law_cell : Addr
  fd__law_cell : FuncData
  F__law_cell : FnP K "_law_cell" s__law_cell f__law_cell fd__law_cell
  g__law_cell : mg "_law_cell" = some (.ref f__law_cell)
  f__law_mixed : Addr
  fd__law_mixed : FuncData
  F__law_mixed : FnP K "_law_mixed" s__law_mixed f__law_mixed fd__law_mixed
  g__law_mixed : mg "_law_mixed" = some (.ref f__law_mixed)
  f__law_digits : Addr
  fd__law_digits : FuncData
  F__law_digits : FnP K "_law_digits" s__law_digits f__law_digits fd__law_digits
  g__law_digits : mg "_law_digits" = some (.ref f__law_digits)
  f__law_row : Addr
  fd__law_row : FuncData
  F__law_row : FnP K "_law_row" s__law_row f__law_row fd__law_row
  g__law_row : mg "_law_row" = some (.ref f__law_row)
  f__law_thing : Addr
  fd__law_thing : FuncData
  F__law_thing : FnP K "_law_thing" s__law_thing f__law_thing fd__law_thing
  g__law_thing : mg "_law_thing" = some (.ref f__law_thing)
  f_ask : Addr
  fd_ask : FuncData
  F_ask : FnP K "ask" s_ask f_ask fd_ask
  g_ask : mg "ask" = some (.ref f_ask)
  f_is_whole : Addr
  fd_is_whole : FuncData
  F_is_whole : FnP K "is_whole" s_is_whole f_is_whole fd_is_whole
  g_is_whole : mg "is_whole" = some (.ref f_is_whole)
  f_common_part : Addr
  fd_common_part : FuncData
  F_common_part : FnP K "common_part" s_common_part f_common_part fd_common_part
  g_common_part : mg "common_part" = some (.ref f_common_part)
  f_is_fraction : Addr
  fd_is_fraction : FuncData
  F_is_fraction : FnP K "is_fraction" s_is_fraction f_is_fraction fd_is_fraction
  g_is_fraction : mg "is_fraction" = some (.ref f_is_fraction)
  f_cross : Addr
  fd_cross : FuncData
  F_cross : FnP K "cross" s_cross f_cross fd_cross
  g_cross : mg "cross" = some (.ref f_cross)
  f_are_neighbours : Addr
  fd_are_neighbours : FuncData
  F_are_neighbours : FnP K "are_neighbours" s_are_neighbours f_are_neighbours fd_are_neighbours
  g_are_neighbours : mg "are_neighbours" = some (.ref f_are_neighbours)
  f_is_above : Addr
  fd_is_above : FuncData
  F_is_above : FnP K "is_above" s_is_above f_is_above fd_is_above
  g_is_above : mg "is_above" = some (.ref f_is_above)
  f_fits_fraction : Addr
  fd_fits_fraction : FuncData
  F_fits_fraction : FnP K "fits_fraction" s_fits_fraction f_fits_fraction fd_fits_fraction
  g_fits_fraction : mg "fits_fraction" = some (.ref f_fits_fraction)
  f_look_at_fractions : Addr
  fd_look_at_fractions : FuncData
  F_look_at_fractions : FnP K "look_at_fractions" s_look_at_fractions f_look_at_fractions fd_look_at_fractions
  g_look_at_fractions : mg "look_at_fractions" = some (.ref f_look_at_fractions)
  f_fits_mark : Addr
  fd_fits_mark : FuncData
  F_fits_mark : FnP K "fits_mark" s_fits_mark f_fits_mark fd_fits_mark
  g_fits_mark : mg "fits_mark" = some (.ref f_fits_mark)
  f_many_places : Addr
  fd_many_places : FuncData
  F_many_places : FnP K "many_places" s_many_places f_many_places fd_many_places
  g_many_places : mg "many_places" = some (.ref f_many_places)
  f_look : Addr
  fd_look : FuncData
  F_look : FnP K "look" s_look f_look fd_look
  g_look : mg "look" = some (.ref f_look)
  f_is_fan : Addr
  fd_is_fan : FuncData
  F_is_fan : FnP K "is_fan" s_is_fan f_is_fan fd_is_fan
  g_is_fan : mg "is_fan" = some (.ref f_is_fan)
  f_is_turning : Addr
  fd_is_turning : FuncData
  F_is_turning : FnP K "is_turning" s_is_turning f_is_turning fd_is_turning
  g_is_turning : mg "is_turning" = some (.ref f_is_turning)
  f_own_power : Addr
  fd_own_power : FuncData
  F_own_power : FnP K "own_power" s_own_power f_own_power fd_own_power
  g_own_power : mg "own_power" = some (.ref f_own_power)
  f_is_short_row : Addr
  fd_is_short_row : FuncData
  F_is_short_row : FnP K "is_short_row" s_is_short_row f_is_short_row fd_is_short_row
  g_is_short_row : mg "is_short_row" = some (.ref f_is_short_row)
  f_is_glue : Addr
  fd_is_glue : FuncData
  F_is_glue : FnP K "is_glue" s_is_glue f_is_glue fd_is_glue
  g_is_glue : mg "is_glue" = some (.ref f_is_glue)
  f_are_glues : Addr
  fd_are_glues : FuncData
  F_are_glues : FnP K "are_glues" s_are_glues f_are_glues fd_are_glues
  g_are_glues : mg "are_glues" = some (.ref f_are_glues)
  f_turning : Addr
  fd_turning : FuncData
  F_turning : FnP K "turning" s_turning f_turning fd_turning
  g_turning : mg "turning" = some (.ref f_turning)
  f_times : Addr
  fd_times : FuncData
  F_times : FnP K "times" s_times f_times fd_times
  g_times : mg "times" = some (.ref f_times)
  f_contrary : Addr
  fd_contrary : FuncData
  F_contrary : FnP K "contrary" s_contrary f_contrary fd_contrary
  g_contrary : mg "contrary" = some (.ref f_contrary)
  f_power_of : Addr
  fd_power_of : FuncData
  F_power_of : FnP K "power_of" s_power_of f_power_of fd_power_of
  g_power_of : mg "power_of" = some (.ref f_power_of)
  f_gap_edge : Addr
  fd_gap_edge : FuncData
  F_gap_edge : FnP K "gap_edge" s_gap_edge f_gap_edge fd_gap_edge
  g_gap_edge : mg "gap_edge" = some (.ref f_gap_edge)
  f_turning_between : Addr
  fd_turning_between : FuncData
  F_turning_between : FnP K "turning_between" s_turning_between f_turning_between fd_turning_between
  g_turning_between : mg "turning_between" = some (.ref f_turning_between)
  f_gap_turning : Addr
  fd_gap_turning : FuncData
  F_gap_turning : FnP K "gap_turning" s_gap_turning f_gap_turning fd_gap_turning
  g_gap_turning : mg "gap_turning" = some (.ref f_gap_turning)
  f_carried : Addr
  fd_carried : FuncData
  F_carried : FnP K "carried" s_carried f_carried fd_carried
  g_carried : mg "carried" = some (.ref f_carried)
  f_glue : Addr
  fd_glue : FuncData
  F_glue : FnP K "glue" s_glue f_glue fd_glue
  g_glue : mg "glue" = some (.ref f_glue)
  f_row_turning : Addr
  fd_row_turning : FuncData
  F_row_turning : FnP K "row_turning" s_row_turning f_row_turning fd_row_turning
  g_row_turning : mg "row_turning" = some (.ref f_row_turning)
  f_look_in : Addr
  fd_look_in : FuncData
  F_look_in : FnP K "look_in" s_look_in f_look_in fd_look_in
  g_look_in : mg "look_in" = some (.ref f_look_in)
  f_met_from : Addr
  fd_met_from : FuncData
  F_met_from : FnP K "met_from" s_met_from f_met_from fd_met_from
  g_met_from : mg "met_from" = some (.ref f_met_from)
  f_goes_back : Addr
  fd_goes_back : FuncData
  F_goes_back : FnP K "goes_back" s_goes_back f_goes_back fd_goes_back
  g_goes_back : mg "goes_back" = some (.ref f_goes_back)
  f_is_number : Addr
  fd_is_number : FuncData
  F_is_number : FnP K "is_number" s_is_number f_is_number fd_is_number
  g_is_number : mg "is_number" = some (.ref f_is_number)
  f_is_table : Addr
  fd_is_table : FuncData
  F_is_table : FnP K "is_table" s_is_table f_is_table fd_is_table
  g_is_table : mg "is_table" = some (.ref f_is_table)
  f_is_word : Addr
  fd_is_word : FuncData
  F_is_word : FnP K "is_word" s_is_word f_is_word fd_is_word
  g_is_word : mg "is_word" = some (.ref f_is_word)
  f_word_leads : Addr
  fd_word_leads : FuncData
  F_word_leads : FnP K "word_leads" s_word_leads f_word_leads fd_word_leads
  g_word_leads : mg "word_leads" = some (.ref f_word_leads)
  f_look_out : Addr
  fd_look_out : FuncData
  F_look_out : FnP K "look_out" s_look_out f_look_out fd_look_out
  g_look_out : mg "look_out" = some (.ref f_look_out)
  f_put_behind : Addr
  fd_put_behind : FuncData
  F_put_behind : FnP K "put_behind" s_put_behind f_put_behind fd_put_behind
  g_put_behind : mg "put_behind" = some (.ref f_put_behind)
  f_shortened : Addr
  fd_shortened : FuncData
  F_shortened : FnP K "shortened" s_shortened f_shortened fd_shortened
  g_shortened : mg "shortened" = some (.ref f_shortened)
  f_steps_word : Addr
  fd_steps_word : FuncData
  F_steps_word : FnP K "steps_word" s_steps_word f_steps_word fd_steps_word
  g_steps_word : mg "steps_word" = some (.ref f_steps_word)
  f_steps_of : Addr
  fd_steps_of : FuncData
  F_steps_of : FnP K "steps_of" s_steps_of f_steps_of fd_steps_of
  g_steps_of : mg "steps_of" = some (.ref f_steps_of)
  f_word_of : Addr
  fd_word_of : FuncData
  F_word_of : FnP K "word_of" s_word_of f_word_of fd_word_of
  g_word_of : mg "word_of" = some (.ref f_word_of)
  f_short_word : Addr
  fd_short_word : FuncData
  F_short_word : FnP K "short_word" s_short_word f_short_word fd_short_word
  g_short_word : mg "short_word" = some (.ref f_short_word)
  f_keeps : Addr
  fd_keeps : FuncData
  F_keeps : FnP K "keeps" s_keeps f_keeps fd_keeps
  g_keeps : mg "keeps" = some (.ref f_keeps)
  f_look_same : Addr
  fd_look_same : FuncData
  F_look_same : FnP K "look_same" s_look_same f_look_same fd_look_same
  g_look_same : mg "look_same" = some (.ref f_look_same)
  f_is_nothing_by : Addr
  fd_is_nothing_by : FuncData
  F_is_nothing_by : FnP K "is_nothing_by" s_is_nothing_by f_is_nothing_by fd_is_nothing_by
  g_is_nothing_by : mg "is_nothing_by" = some (.ref f_is_nothing_by)
  f_look_leaver : Addr
  fd_look_leaver : FuncData
  F_look_leaver : FnP K "look_leaver" s_look_leaver f_look_leaver fd_look_leaver
  g_look_leaver : mg "look_leaver" = some (.ref f_look_leaver)
  f_looked : Addr
  fd_looked : FuncData
  F_looked : FnP K "looked" s_looked f_looked fd_looked
  g_looked : mg "looked" = some (.ref f_looked)
  f__law_failed : Addr
  fd__law_failed : FuncData
  F__law_failed : FnP K "_law_failed" s__law_failed f__law_failed fd__law_failed
  g__law_failed : mg "_law_failed" = some (.ref f__law_failed)
  f_law : Addr
  fd_law : FuncData
  F_law : FnP K "law" s_law f_law fd_law
  g_law : mg "law" = some (.ref f_law)
  f_iNoPaper : Addr
  fd_iNoPaper : FuncData
  F_iNoPaper : FunD K "__init__" "NoPaper.__init__" (defArgs s_iNoPaper) (defBody s_iNoPaper) (defScope s_iNoPaper) [] [] f_iNoPaper fd_iNoPaper
  f_iNoFan : Addr
  fd_iNoFan : FuncData
  F_iNoFan : FunD K "__init__" "NoFan.__init__" (defArgs s_iNoFan) (defBody s_iNoFan) (defScope s_iNoFan) [] [] f_iNoFan fd_iNoFan
  b_ValueError : mg "ValueError" = none
  b_abs : mg "abs" = none
  b_all : mg "all" = none
  b_any : mg "any" = none
  b_bool : mg "bool" = none
  b_int : mg "int" = none
  b_isinstance : mg "isinstance" = none
  b_len : mg "len" = none
  b_list : mg "list" = none
  b_max : mg "max" = none
  b_min : mg "min" = none
  b_range : mg "range" = none
  b_str : mg "str" = none
  b_tuple : mg "tuple" = none
  b_zip : mg "zip" = none
  r_NoPaper : RaO K mg "NoPaper" "at" "at" (He.ga K "NoPaper") f_iNoPaper
  n_NoPaper_at : PySem.W.findIn K (.ref (He.ga K "NoPaper")) "at" = some none
  B_FanError : InB K mg "FanError" (He.ga K "FanError")
  c_ENDLESS : GlD K mg "ENDLESS" (.tuple [(.int 1), (.int 0)])
  c_FEWEST : GlD K mg "FEWEST" (.int 2)
  c_MOST_fans : GlD K mg "MOST_fans" (.int 22)
  r_NoFan : RaO K mg "NoFan" "where" "at" (He.ga K "NoFan") f_iNoFan
  n_NoFan_where : PySem.W.findIn K (.ref (He.ga K "NoFan")) "where" = some none
  n_NoFan_at : PySem.W.findIn K (.ref (He.ga K "NoFan")) "at" = some none
  c_NOUGHT : GlD K mg "NOUGHT" (.tuple [(.int 0), (.int 1)])
  c_MOST_PLACES : GlD K mg "MOST_PLACES" (.int 60)
  m_NoFan : mg "NoFan" = some (.ref (He.ga K "NoFan"))
  e_TooLong_NoFan : PySem.W.exmOne K (.ref (He.ga K "TooLong")) (.ref (He.ga K "NoFan")) = some false
  m_TooLong : mg "TooLong" = some (.ref (He.ga K "TooLong"))
  e_NoTurning_NoFan : PySem.W.exmOne K (.ref (He.ga K "NoTurning")) (.ref (He.ga K "NoFan")) = some false
  m_NoTurning : mg "NoTurning" = some (.ref (He.ga K "NoTurning"))
  e_NoPaper_NoFan : PySem.W.exmOne K (.ref (He.ga K "NoPaper")) (.ref (He.ga K "NoFan")) = some false
  m_NoPaper : mg "NoPaper" = some (.ref (He.ga K "NoPaper"))
  e_NoFan_NoFan : PySem.W.exmOne K (.ref (He.ga K "NoFan")) (.ref (He.ga K "NoFan")) = some true
  c_MOST_POWER : GlD K mg "MOST_POWER" (.int 100)
  c_MOST_TUPLES : GlD K mg "MOST_TUPLES" (.int 100)
  r_NoTurning : RaC K mg "NoTurning" (He.ga K "NoTurning")
  c_NOTHING : GlD K mg "NOTHING" (.tuple [(.int 1), (.int 0), (.int 0), (.int 1)])
  c_HALF : GlD K mg "HALF" (.tuple [(.int 0), (.int (-1)), (.int 1), (.int 0)])
  c_THIRD : GlD K mg "THIRD" (.tuple [(.int 0), (.int (-1)), (.int 1), (.int (-1))])
  c_MOST_places : GlD K mg "MOST_places" (.int 60)
  c_MOST_LETTERS : GlD K mg "MOST_LETTERS" (.int 2000)
  c_THIRDS : GlD K mg "THIRDS" (.tuple [(.str ""), (.str "r"), (.str "q")])
  c_MOST_RAW : GlD K mg "MOST_RAW" (.int 12000)
  r_TooLong : RaC K mg "TooLong" (He.ga K "TooLong")
  e_TooLong_TooLong : PySem.W.exmOne K (.ref (He.ga K "TooLong")) (.ref (He.ga K "TooLong")) = some true
  e_NoTurning_TooLong : PySem.W.exmOne K (.ref (He.ga K "NoTurning")) (.ref (He.ga K "TooLong")) = some false
  e_NoPaper_TooLong : PySem.W.exmOne K (.ref (He.ga K "NoPaper")) (.ref (He.ga K "TooLong")) = some false
  e_NoFan_TooLong : PySem.W.exmOne K (.ref (He.ga K "NoFan")) (.ref (He.ga K "TooLong")) = some false
  c_MOST_RESTS : GlD K mg "MOST_RESTS" (.int 24)
  e_TooLong_NoPaper : PySem.W.exmOne K (.ref (He.ga K "TooLong")) (.ref (He.ga K "NoPaper")) = some false
  e_NoTurning_NoPaper : PySem.W.exmOne K (.ref (He.ga K "NoTurning")) (.ref (He.ga K "NoPaper")) = some false
  e_NoPaper_NoPaper : PySem.W.exmOne K (.ref (He.ga K "NoPaper")) (.ref (He.ga K "NoPaper")) = some true
  e_NoFan_NoPaper : PySem.W.exmOne K (.ref (He.ga K "NoFan")) (.ref (He.ga K "NoPaper")) = some false
  x_NoPaper : L2.ExcC K (He.ga K "NoPaper")
  k_NoPaper_FanError : PySem.W.kitOne K (.ref (He.ga K "NoPaper")) (.ref (He.ga K "FanError")) = some true
  m_FanError : mg "FanError" = some (.ref (He.ga K "FanError"))
  k_NoPaper_ValueError : PySem.W.kitOne K (.ref (He.ga K "NoPaper")) (.type "ValueError") = some true
  k_NoPaper_any_NoFan_NoTurning_NoText : PySem.W.kitAny K (.ref (He.ga K "NoPaper")) [.ref (He.ga K "NoFan"), .ref (He.ga K "NoTurning"), .ref (He.ga K "NoText")] = some false
  m_NoText : mg "NoText" = some (.ref (He.ga K "NoText"))
  xf_NoPaper : XfC K (He.ga K "NoPaper")
  t_LETTERS : Tab K w mg "LETTERS" [("s", (.tuple [(.int 0), (.int (-1)), (.int 1), (.int 0)])), ("r", (.tuple [(.int 0), (.int (-1)), (.int 1), (.int (-1))])), ("q", (.tuple [(.int 1), (.int (-1)), (.int 1), (.int 0)]))]
  t_POWERS : Tab K w mg "POWERS" [("r", (.int 1)), ("q", (.int 2))]
  t_SIZES : Tab K w mg "SIZES" [("in", (.int 4)), ("out", (.int 4)), ("same", (.int 3)), ("leaver", (.int 4))]
/-! ### mirrors -/
noncomputable def m__law_cell : M Fl := seqM (ifS (tcmp fLt (getM 1) (callB fLen (argC (getM 0) (argN)))) (retS (bin fIx (getM 0) (getM 1))) (nilS))
  (retS (cst (.int 0)))
noncomputable def f__law_cell : List D → FO := runF 0 m__law_cell
noncomputable def m__law_mixed : M Fl := seqM (setS 3 (lstM (argN)))
  (seqM (forS (asgR 4) (itR1 (argC (getM 2) (argN))) (seqM (setS 5 (bin fMod (bin fMulI (bin fAdd (bin fAdd (bin fAdd (bin fMod (getM 0) (cst (.int 998244353))) (bin fMulI (bin fMulI (cst (.int 31)) (getM 4)) (getM 4))) (bin fMulI (cst (.int 1013)) (getM 4))) (cst (.int 1))) (cst (.int 48271))) (cst (.int 2147483647))))
  (seqM (setS 6 (bin fMod (bin fMulI (bin fAdd (bin fAdd (bin fDiv (getM 5) (cst (.int 7))) (bin fMulI (bin fMod (bin fDiv (getM 0) (cst (.int 1009))) (cst (.int 10007))) (cst (.int 17)))) (getM 4)) (cst (.int 69621))) (cst (.int 2147483629))))
  (exS (apE (getM 3) (bin fMod (bin fDiv (getM 6) (cst (.int 11))) (getM 1)))))))
  (retS (getM 3)))
noncomputable def f__law_mixed : List D → FO := runF 4 m__law_mixed
noncomputable def m__law_digits : M Fl := seqM (setS 3 (lstM (argN)))
  (seqM (forS (asgR 4) (itR1 (argC (getM 2) (argN))) (seqM (exS (apE (getM 3) (bin fMod (getM 0) (getM 1))))
  (setS 0 (bin fDiv (getM 0) (getM 1)))))
  (retS (getM 3)))
noncomputable def f__law_digits : List D → FO := runF 2 m__law_digits
noncomputable def m__law_row : M Fl := seqM (ifS (tcmp fGe (callB fAbs (argC (getM 0) (argN))) (bin fPow (cst (.int 10)) (cst (.int 18)))) (retS (callF f__law_digits (argC (getM 0) (argC (getM 1) (argC (getM 2) (argN)))))) (nilS))
  (retS (callF f__law_mixed (argC (getM 0) (argC (getM 1) (argC (getM 2) (argN))))))
noncomputable def f__law_row : List D → FO := runF 0 m__law_row
noncomputable def m__law_thing (g : List D → List D → Option (List D × D)) : M Fl := seqM (setS 2 (bin fMod (muE0 fPop (getM 0)) (cst (.int 9))))
  (seqM (ifS (orM (tcmp fEq (getM 2) (cst (.int 0))) (tcmp fEq (getM 1) (cst (.int 0)))) (retS (bin fIx (lstM (argC (cst .none) (argC (cst (.bool true)) (argC (cst (.bool false)) (argC (cst (.int 0)) (argC (cst (.int 1)) (argC (un fNeg (cst (.int 5))) (argC (bin fPow (cst (.int 10)) (cst (.int 11))) (argC (cst (.str "")) (argC (cst (.str "in")) (argC (cst (.str "half")) (argC (cst (.str "s")) (argC (tupM (argN)) (argC (lstM (argN)) (argN))))))))))))))) (bin fMod (muE0 fPop (getM 0)) (cst (.int 13))))) (nilS))
  (seqM (ifS (tcmp fLt (getM 2) (cst (.int 3))) (retS (bin fSub (muE0 fPop (getM 0)) (cst (.int 20)))) (nilS))
  (seqM (ifS (tcmp fLt (getM 2) (cst (.int 5))) (retS (bin fIx (lstM (argC (cst (.str "in")) (argC (cst (.str "out")) (argC (cst (.str "same")) (argC (cst (.str "leaver")) (argC (cst (.str "third")) (argC (cst (.str "1/0")) (argN)))))))) (bin fMod (muE0 fPop (getM 0)) (cst (.int 6))))) (nilS))
  (seqM (setS 3 (lstM (argN)))
  (seqM (forS (asgR 4) (itR1 (argC (bin fMod (muE0 fPop (getM 0)) (cst (.int 4))) (argN))) (exS (apE (getM 3) (lenF g (argC (getM 0) (argC (bin fSub (getM 1) (cst (.int 1))) (argN)))))))
  (retS (bin fIx (lstM (argC (getM 3) (argC (callB fTuple (argC (getM 3) (argN))) (argN)))) (bin fMod (getM 2) (cst (.int 2))))))))))
noncomputable def f__law_thing : Nat → List D → List D → Option (List D × D)
  | 0 => fun _ _ => none
  | n + 1 => runM 3 (m__law_thing (f__law_thing n))
noncomputable def m_ask : M Fl := ifS (notT (tst (getM 0))) (raiseG "NoPaper" "at" (argC (getM 1) (argN))) (nilS)
noncomputable def f_ask : List D → FO := runF 0 m_ask
noncomputable def m_is_whole : M Fl := retS (vAnd (isi isInt (getM 0)) (notV (isi isBool (getM 0))))
noncomputable def f_is_whole : List D → FO := runF 0 m_is_whole
noncomputable def m_common_part : M Fl := seqM (setS 0 (callB fAbs (argC (getM 0) (argN))))
  (seqM (setS 1 (callB fAbs (argC (getM 1) (argN))))
  (seqM (whileC (tcmp fGt (getM 1) (cst (.int 0))) (parS [0, 1] (argC (getM 1) (argC (bin fMod (getM 0) (getM 1)) (argN)))))
  (retS (getM 0))))
noncomputable def f_common_part : List D → FO := runF 0 m_common_part
noncomputable def m_is_fraction : M Fl := seqM (ifS (orM (notT (tst (isi isTup (getM 0)))) (orM (tcmp fNe (callB fLen (argC (getM 0) (argN))) (cst (.int 2))) (orM (notT (tst (callF f_is_whole (argC (bin fIx (getM 0) (cst (.int 0))) (argN))))) (notT (tst (callF f_is_whole (argC (bin fIx (getM 0) (cst (.int 1))) (argN)))))))) (retS (cst (.bool false))) (nilS))
  (seqM (ifS (tcmp fEq (bin fIx (getM 0) (cst (.int 1))) (cst (.int 0))) (retS (bin fEq (bin fIx (getM 0) (cst (.int 0))) (cst (.int 1)))) (nilS))
  (retS (vAnd (bin fGt (bin fIx (getM 0) (cst (.int 1))) (cst (.int 0))) (bin fEq (callF f_common_part (argC (bin fIx (getM 0) (cst (.int 0))) (argC (bin fIx (getM 0) (cst (.int 1))) (argN)))) (cst (.int 1))))))
noncomputable def f_is_fraction : List D → FO := runF 0 m_is_fraction
noncomputable def m_cross : M Fl := retS (bin fSub (bin fMulI (bin fIx (getM 0) (cst (.int 0))) (bin fIx (getM 1) (cst (.int 1)))) (bin fMulI (bin fIx (getM 0) (cst (.int 1))) (bin fIx (getM 1) (cst (.int 0)))))
noncomputable def f_cross : List D → FO := runF 0 m_cross
noncomputable def m_are_neighbours : M Fl := retS (bin fEq (callB fAbs (argC (callF f_cross (argC (getM 0) (argC (getM 1) (argN)))) (argN))) (cst (.int 1)))
noncomputable def f_are_neighbours : List D → FO := runF 0 m_are_neighbours
noncomputable def m_is_above : M Fl := retS (bin fGt (callF f_cross (argC (getM 0) (argC (getM 1) (argN)))) (cst (.int 0)))
noncomputable def f_is_above : List D → FO := runF 0 m_is_above
noncomputable def m_fits_fraction : M Fl := seqM (setS 2 (bin fIx (getM 0) (getM 1)))
  (seqM (ifS (notT (tst (callF f_is_fraction (argC (getM 2) (argN))))) (retS (cst (.bool false))) (nilS))
  (seqM (ifS (tcmp fEq (getM 1) (cst (.int 0))) (retS (bin fEq (getM 2) (cst (.tuple [(.int 1), (.int 0)])))) (nilS))
  (seqM (ifS (orM (tcmp fEq (getM 2) (cst (.tuple [(.int 1), (.int 0)]))) (notT (tst (callF f_are_neighbours (argC (bin fIx (getM 0) (bin fSub (getM 1) (cst (.int 1)))) (argC (getM 2) (argN))))))) (retS (cst (.bool false))) (nilS))
  (seqM (ifS (andM (tcmp fGt (getM 1) (cst (.int 1))) (notT (tst (callF f_is_above (argC (getM 2) (argC (bin fIx (getM 0) (bin fSub (getM 1) (cst (.int 1)))) (argN))))))) (retS (cst (.bool false))) (nilS))
  (retS (vOr (bin fLt (getM 1) (bin fSub (callB fLen (argC (getM 0) (argN))) (cst (.int 1)))) (callF f_are_neighbours (argC (getM 2) (argC (cst (.tuple [(.int 1), (.int 0)])) (argN))))))))))
noncomputable def f_fits_fraction : List D → FO := runF 1 m_fits_fraction
noncomputable def m_look_at_fractions : M Fl := seqM (ifS (notT (M.bind (chM (fun i j => decide (i ≤ j)) (fun i j => decide (i ≤ j)) (cst (.int 2)) (callB fLen (argC (getM 0) (argN))) (cst (.int 22))) asB)) (raiseF "NoFan" "where" "at" (argC (cst (.str "many")) (argC (cst (.int 0)) (argN)))) (nilS))
  (seqM (forS (asgR 1) (itR1 (argC (callB fLen (argC (getM 0) (argN))) (argN))) (ifS (notT (tst (callF f_fits_fraction (argC (getM 0) (argC (getM 1) (argN)))))) (raiseF "NoFan" "where" "at" (argC (cst (.str "fraction")) (argC (getM 1) (argN)))) (nilS)))
  (ifS (tcmp fNotIn (cst (.tuple [(.int 0), (.int 1)])) (getM 0)) (raiseF "NoFan" "where" "at" (argC (cst (.str "nought")) (argC (cst (.int 0)) (argN)))) (nilS)))
noncomputable def f_look_at_fractions : List D → FO := runF 1 m_look_at_fractions
noncomputable def m_fits_mark : M Fl := seqM (setS 2 (bin fIx (getM 0) (getM 1)))
  (seqM (ifS (tst (isi isStr (getM 2))) (retS (bin fIn (getM 2) (tupM (argC (cst (.str "half")) (argC (cst (.str "third")) (argN)))))) (nilS))
  (seqM (ifS (orM (notT (tst (callF f_is_whole (argC (getM 2) (argN))))) (orM (notT (M.bind (chM (fun i j => decide (i ≤ j)) (fun i j => decide (i < j)) (cst (.int 0)) (getM 2) (callB fLen (argC (getM 0) (argN)))) asB)) (tcmp fEq (getM 2) (getM 1)))) (retS (cst (.bool false))) (nilS))
  (retS (vAnd (callF f_is_whole (argC (bin fIx (getM 0) (getM 2)) (argN))) (bin fEq (bin fIx (getM 0) (getM 2)) (getM 1))))))
noncomputable def f_fits_mark : List D → FO := runF 1 m_fits_mark
noncomputable def m_many_places : M Fl := seqM (asgS (asgSeq 2 (asgCons (asgR 1) (asgCons (asgR 2) (asgNil)))) (getM 0))
  (retS (bin fAdd (bin fMulI (cst (.int 3)) (bin fSub (callB fLen (argC (getM 1) (argN))) (cst (.int 2)))) (callB fLen (argC (lcM (put1 3) (tcmp fEq (getM 3) (cst (.str "third"))) (getM 3) [3] (itA (getM 2))) (argN)))))
noncomputable def f_many_places : List D → FO := runF 3 m_many_places
noncomputable def m_look : M Fl := seqM (ifS (orM (notT (tst (isi isTup (getM 0)))) (orM (tcmp fNe (callB fLen (argC (getM 0) (argN))) (cst (.int 2))) (notT (tst (callB fAll (argC (lcM (put1 4) (M.ret true) (isi isTup (getM 4)) [4] (itA (getM 0))) (argN))))))) (raiseF "NoFan" "where" "at" (argC (cst (.str "fan")) (argC (cst (.int 0)) (argN)))) (nilS))
  (seqM (asgS (asgSeq 2 (asgCons (asgR 2) (asgCons (asgR 3) (asgNil)))) (getM 0))
  (seqM (exS (callF f_look_at_fractions (argC (getM 2) (argN))))
  (seqM (ifS (tcmp fNe (callB fLen (argC (getM 3) (argN))) (callB fLen (argC (getM 2) (argN)))) (raiseF "NoFan" "where" "at" (argC (cst (.str "marks")) (argC (cst (.int 0)) (argN)))) (nilS))
  (seqM (forS (asgR 1) (itR1 (argC (callB fLen (argC (getM 3) (argN))) (argN))) (ifS (notT (tst (callF f_fits_mark (argC (getM 3) (argC (getM 1) (argN)))))) (raiseF "NoFan" "where" "at" (argC (cst (.str "mark")) (argC (getM 1) (argN)))) (nilS)))
  (ifS (notT (M.bind (chM (fun i j => decide (i ≤ j)) (fun i j => decide (i ≤ j)) (cst (.int 1)) (callF f_many_places (argC (getM 0) (argN))) (cst (.int 60))) asB)) (raiseF "NoFan" "where" "at" (argC (cst (.str "places")) (argC (cst (.int 0)) (argN)))) (nilS))))))
noncomputable def f_look : List D → FO := runF 4 m_look
noncomputable def m_is_fan : M Fl := seqM (tryO (clsOf [("NoFan", true), ("NoPaper", false), ("NoTurning", false), ("TooLong", false)]) (exS (callF f_look (argC (getM 0) (argN)))) (retS (cst (.bool false))))
  (retS (cst (.bool true)))
noncomputable def f_is_fan : List D → FO := runF 0 m_is_fan
noncomputable def m_is_turning : M Fl := seqM (ifS (orM (notT (tst (isi isTup (getM 0)))) (orM (tcmp fNe (callB fLen (argC (getM 0) (argN))) (cst (.int 4))) (notT (tst (callB fAll (argC (lcM (put1 5) (M.ret true) (callF f_is_whole (argC (getM 5) (argN))) [5] (itA (getM 0))) (argN))))))) (retS (cst (.bool false))) (nilS))
  (seqM (asgS (asgSeq 4 (asgCons (asgR 1) (asgCons (asgR 2) (asgCons (asgR 3) (asgCons (asgR 4) (asgNil)))))) (getM 0))
  (retS (vAnd (bin fEq (bin fSub (bin fMulI (getM 1) (getM 4)) (bin fMulI (getM 2) (getM 3))) (cst (.int 1))) (vOr (bin fGt (getM 3) (cst (.int 0))) (vAnd (bin fEq (getM 3) (cst (.int 0))) (bin fEq (getM 4) (cst (.int 1))))))))
noncomputable def f_is_turning : List D → FO := runF 5 m_is_turning
noncomputable def m_own_power : M Fl := seqM (setS 3 (bin fIx (bin fIx (getM 0) (cst (.int 1))) (getM 1)))
  (seqM (ifS (tcmp fEq (getM 3) (cst (.str "half"))) (retS (tupM (argC (getM 1) (argC (bin fMod (getM 2) (cst (.int 2))) (argN))))) (nilS))
  (seqM (ifS (tcmp fEq (getM 3) (cst (.str "third"))) (retS (tupM (argC (getM 1) (argC (bin fMod (getM 2) (cst (.int 3))) (argN))))) (nilS))
  (seqM (ifS (tcmp fLt (getM 3) (getM 1)) (retS (tupM (argC (getM 3) (argC (bin fSub (cst (.int 0)) (getM 2)) (argN))))) (nilS))
  (retS (tupM (argC (getM 1) (argC (getM 2) (argN))))))))
noncomputable def f_own_power : List D → FO := runF 1 m_own_power
noncomputable def m_is_short_row : M Fl := seqM (ifS (tst (callB fAny (argC (lcM (putSeq 2 (putCons (put1 2) (putCons (put1 3) (putNil)))) (M.ret true) (bin fEq (bin fIx (getM 2) (cst (.int 0))) (bin fIx (getM 3) (cst (.int 0)))) [2, 3] (itZ (argC (getM 1) (argC (slM (getM 1) (M.bind (cst (.int 1)) asInt) (M.ret none)) (argN))))) (argN)))) (retS (cst (.bool false))) (nilS))
  (retS (callB fAll (argC (lcM (putSeq 2 (putCons (put1 4) (putCons (put1 5) (putNil)))) (M.ret true) (vAnd (bin fNe (getM 5) (cst (.int 0))) (bin fEq (callF f_own_power (argC (getM 0) (argC (getM 4) (argC (getM 5) (argN))))) (tupM (argC (getM 4) (argC (getM 5) (argN)))))) [4, 5] (itA (getM 1))) (argN))))
noncomputable def f_is_short_row : List D → FO := runF 4 m_is_short_row
noncomputable def m_is_glue : M Fl := seqM (ifS (orM (notT (tst (isi isTup (getM 1)))) (orM (tcmp fNe (callB fLen (argC (getM 1) (argN))) (cst (.int 2))) (notT (tst (callB fAll (argC (lcM (put1 2) (M.ret true) (callF f_is_whole (argC (getM 2) (argN))) [2] (itA (getM 1))) (argN))))))) (retS (cst (.bool false))) (nilS))
  (retS (vAnd (chM (fun i j => decide (i ≤ j)) (fun i j => decide (i < j)) (cst (.int 0)) (bin fIx (getM 1) (cst (.int 0))) (callB fLen (argC (bin fIx (getM 0) (cst (.int 0))) (argN)))) (chM (fun i j => decide (i ≤ j)) (fun i j => decide (i ≤ j)) (un fNeg (cst (.int 100))) (bin fIx (getM 1) (cst (.int 1))) (cst (.int 100)))))
noncomputable def f_is_glue : List D → FO := runF 1 m_is_glue
noncomputable def m_are_glues : M Fl := seqM (ifS (orM (notT (tst (isi isTup (getM 1)))) (orM (tcmp fGt (callB fLen (argC (getM 1) (argN))) (cst (.int 100))) (notT (tst (callB fAll (argC (lcM (put1 2) (M.ret true) (callF f_is_glue (argC (getM 0) (argC (getM 2) (argN)))) [2] (itA (getM 1))) (argN))))))) (retS (cst (.bool false))) (nilS))
  (retS (callF f_is_short_row (argC (getM 0) (argC (getM 1) (argN)))))
noncomputable def f_are_glues : List D → FO := runF 1 m_are_glues
noncomputable def m_turning : M Fl := seqM (ifS (tcmp fNe (bin fSub (bin fMulI (getM 0) (getM 3)) (bin fMulI (getM 1) (getM 2))) (cst (.int 1))) (raiseM "NoTurning") (nilS))
  (seqM (ifS (orM (tcmp fLt (getM 2) (cst (.int 0))) (andM (tcmp fEq (getM 2) (cst (.int 0))) (tcmp fLt (getM 3) (cst (.int 0))))) (retS (tupM (argC (bin fSub (cst (.int 0)) (getM 0)) (argC (bin fSub (cst (.int 0)) (getM 1)) (argC (bin fSub (cst (.int 0)) (getM 2)) (argC (bin fSub (cst (.int 0)) (getM 3)) (argN))))))) (nilS))
  (retS (tupM (argC (getM 0) (argC (getM 1) (argC (getM 2) (argC (getM 3) (argN))))))))
noncomputable def f_turning : List D → FO := runF 0 m_turning
noncomputable def m_times : M Fl := seqM (asgS (asgSeq 4 (asgCons (asgR 2) (asgCons (asgR 3) (asgCons (asgR 4) (asgCons (asgR 5) (asgNil)))))) (getM 0))
  (seqM (asgS (asgSeq 4 (asgCons (asgR 6) (asgCons (asgR 7) (asgCons (asgR 8) (asgCons (asgR 9) (asgNil)))))) (getM 1))
  (retS (callF f_turning (argC (bin fAdd (bin fMulI (getM 2) (getM 6)) (bin fMulI (getM 3) (getM 8))) (argC (bin fAdd (bin fMulI (getM 2) (getM 7)) (bin fMulI (getM 3) (getM 9))) (argC (bin fAdd (bin fMulI (getM 4) (getM 6)) (bin fMulI (getM 5) (getM 8))) (argC (bin fAdd (bin fMulI (getM 4) (getM 7)) (bin fMulI (getM 5) (getM 9))) (argN))))))))
noncomputable def f_times : List D → FO := runF 8 m_times
noncomputable def m_contrary : M Fl := seqM (asgS (asgSeq 4 (asgCons (asgR 1) (asgCons (asgR 2) (asgCons (asgR 3) (asgCons (asgR 4) (asgNil)))))) (getM 0))
  (retS (callF f_turning (argC (getM 4) (argC (bin fSub (cst (.int 0)) (getM 2)) (argC (bin fSub (cst (.int 0)) (getM 3)) (argC (getM 1) (argN)))))))
noncomputable def f_contrary : List D → FO := runF 4 m_contrary
noncomputable def m_power_of : M Fl := seqM (ifS (tcmp fLt (getM 1) (cst (.int 0))) (seqM (setS 0 (callF f_contrary (argC (getM 0) (argN))))
  (setS 1 (bin fSub (cst (.int 0)) (getM 1)))) (nilS))
  (seqM (setS 2 (cst (.tuple [(.int 1), (.int 0), (.int 0), (.int 1)])))
  (seqM (whileC (tcmp fGt (getM 1) (cst (.int 0))) (seqM (ifS (tcmp fEq (bin fMod (getM 1) (cst (.int 2))) (cst (.int 1))) (setS 2 (callF f_times (argC (getM 2) (argC (getM 0) (argN))))) (nilS))
  (seqM (setS 0 (callF f_times (argC (getM 0) (argC (getM 0) (argN)))))
  (setS 1 (bin fDiv (getM 1) (cst (.int 2)))))))
  (retS (getM 2))))
noncomputable def f_power_of : List D → FO := runF 1 m_power_of
noncomputable def m_gap_edge : M Fl := seqM (setS 2 (bin fIx (getM 0) (cst (.int 0))))
  (retS (tupM (argC (bin fIx (getM 2) (getM 1)) (argC (bin fIx (getM 2) (bin fMod (bin fAdd (getM 1) (cst (.int 1))) (callB fLen (argC (getM 2) (argN))))) (argN)))))
noncomputable def f_gap_edge : List D → FO := runF 1 m_gap_edge
noncomputable def m_turning_between : M Fl := seqM (ifS (notT (tst (callF f_are_neighbours (argC (getM 0) (argC (getM 1) (argN)))))) (raiseM "NoTurning") (nilS))
  (seqM (setS 2 (callF f_cross (argC (getM 0) (argC (getM 1) (argN)))))
  (retS (callF f_turning (argC (bin fIx (getM 0) (cst (.int 0))) (argC (bin fMulI (getM 2) (bin fIx (getM 1) (cst (.int 0)))) (argC (bin fIx (getM 0) (cst (.int 1))) (argC (bin fMulI (getM 2) (bin fIx (getM 1) (cst (.int 1)))) (argN))))))))
noncomputable def f_turning_between : List D → FO := runF 1 m_turning_between
noncomputable def m_gap_turning : M Fl := seqM (asgS (asgSeq 2 (asgCons (asgR 2) (asgCons (asgR 3) (asgNil)))) (callF f_gap_edge (argC (getM 0) (argC (getM 1) (argN)))))
  (retS (callF f_turning_between (argC (getM 2) (argC (getM 3) (argN)))))
noncomputable def f_gap_turning : List D → FO := runF 2 m_gap_turning
noncomputable def m_carried : M Fl := retS (callF f_times (argC (callF f_times (argC (getM 0) (argC (getM 1) (argN)))) (argC (callF f_contrary (argC (getM 0) (argN))) (argN))))
noncomputable def f_carried : List D → FO := runF 0 m_carried
noncomputable def m_glue : M Fl := seqM (setS 2 (bin fIx (bin fIx (getM 0) (cst (.int 1))) (getM 1)))
  (seqM (setS 3 (callF f_gap_turning (argC (getM 0) (argC (getM 1) (argN)))))
  (seqM (ifS (tcmp fEq (getM 2) (cst (.str "half"))) (retS (callF f_carried (argC (getM 3) (argC (cst (.tuple [(.int 0), (.int (-1)), (.int 1), (.int 0)])) (argN))))) (nilS))
  (seqM (ifS (tcmp fEq (getM 2) (cst (.str "third"))) (retS (callF f_carried (argC (getM 3) (argC (callF f_times (argC (callF f_times (argC (cst (.tuple [(.int 0), (.int (-1)), (.int 1), (.int 0)])) (argC (cst (.tuple [(.int 0), (.int (-1)), (.int 1), (.int (-1))])) (argN)))) (argC (cst (.tuple [(.int 0), (.int (-1)), (.int 1), (.int 0)])) (argN)))) (argN))))) (nilS))
  (retS (callF f_times (argC (callF f_times (argC (callF f_gap_turning (argC (getM 0) (argC (getM 2) (argN)))) (argC (cst (.tuple [(.int 0), (.int (-1)), (.int 1), (.int 0)])) (argN)))) (argC (callF f_contrary (argC (getM 3) (argN))) (argN))))))))
noncomputable def f_glue : List D → FO := runF 2 m_glue
noncomputable def m_row_turning : M Fl := seqM (setS 2 (cst (.tuple [(.int 1), (.int 0), (.int 0), (.int 1)])))
  (seqM (forS (asgSeq 2 (asgCons (asgR 3) (asgCons (asgR 4) (asgNil)))) (itA (getM 1)) (setS 2 (callF f_times (argC (getM 2) (argC (callF f_power_of (argC (callF f_glue (argC (getM 0) (argC (getM 3) (argN)))) (argC (getM 4) (argN)))) (argN))))))
  (retS (getM 2)))
noncomputable def f_row_turning : List D → FO := runF 3 m_row_turning
noncomputable def m_look_in : M Fl := seqM (exS (callF f_ask (argC (callF f_is_fan (argC (getM 0) (argN))) (argC (cst (.int 2)) (argN)))))
  (seqM (exS (callF f_ask (argC (callF f_is_turning (argC (getM 1) (argN))) (argC (cst (.int 3)) (argN)))))
  (seqM (exS (callF f_ask (argC (callF f_are_glues (argC (getM 0) (argC (getM 2) (argN)))) (argC (cst (.int 4)) (argN)))))
  (exS (callF f_ask (argC (bin fEq (callF f_row_turning (argC (getM 0) (argC (getM 2) (argN)))) (getM 1)) (argC (cst (.int 5)) (argN)))))))
noncomputable def f_look_in : List D → FO := runF 0 m_look_in
noncomputable def m_met_from : M Fl := seqM (setS 3 (lstM (argC (getM 2) (argN))))
  (seqM (badS)
  (seqM (setS 5 (cst (.int 0)))
  (seqM (whileC (tcmp fLt (getM 5) (callB fLen (argC (getM 3) (argN)))) (seqM (forS (asgR 6) (itA (tupM (argC (bin fIx (getM 0) (bin fIx (getM 3) (getM 5))) (argC (bin fIx (getM 1) (bin fIx (getM 3) (getM 5))) (argN))))) (ifS (tcmp fNotIn (getM 6) (getM 4)) (seqM (asgS (asgSub (getM 4) (getM 6)) (cst (.bool true)))
  (exS (apE (getM 3) (getM 6)))) (nilS)))
  (augM 5 fAddI (cst (.int 1)))))
  (retS (getM 3)))))
noncomputable def f_met_from : List D → FO := runF 4 m_met_from
noncomputable def m_goes_back : M Fl := seqM (forS (asgR 2) (itR1 (argC (callB fLen (argC (getM 0) (argN))) (argN))) (seqM (setS 3 (getM 2))
  (seqM (forS (asgR 4) (itR1 (argC (getM 1) (argN))) (setS 3 (bin fIx (getM 0) (getM 3))))
  (ifS (tcmp fNe (getM 3) (getM 2)) (retS (cst (.bool false))) (nilS)))))
  (retS (cst (.bool true)))
noncomputable def f_goes_back : List D → FO := runF 3 m_goes_back
noncomputable def m_is_number : M Fl := retS (vAnd (isi isInt (getM 0)) (vAnd (notV (isi isBool (getM 0))) (chM (fun i j => decide (i ≤ j)) (fun i j => decide (i < j)) (cst (.int 0)) (getM 0) (getM 1))))
noncomputable def f_is_number : List D → FO := runF 0 m_is_number
noncomputable def m_is_table : M Fl := seqM (ifS (orM (notT (tst (isi isTup (getM 0)))) (tcmp fNe (callB fLen (argC (getM 0) (argN))) (cst (.int 2)))) (retS (cst (.bool false))) (nilS))
  (seqM (asgS (asgSeq 2 (asgCons (asgR 2) (asgCons (asgR 3) (asgNil)))) (getM 0))
  (seqM (ifS (orM (notT (tst (isi isTup (getM 2)))) (orM (notT (tst (isi isTup (getM 3)))) (tcmp fNe (callB fLen (argC (getM 2) (argN))) (callB fLen (argC (getM 3) (argN)))))) (retS (cst (.bool false))) (nilS))
  (seqM (setS 1 (callB fLen (argC (getM 2) (argN))))
  (seqM (ifS (orM (notT (M.bind (chM (fun i j => decide (i ≤ j)) (fun i j => decide (i ≤ j)) (cst (.int 1)) (getM 1) (cst (.int 60))) asB)) (notT (tst (callB fAll (argC (lcM (put1 4) (M.ret true) (callF f_is_number (argC (getM 4) (argC (getM 1) (argN)))) [4] (itA (bin fAdd (getM 2) (getM 3)))) (argN)))))) (retS (cst (.bool false))) (nilS))
  (seqM (ifS (orM (notT (tst (callF f_goes_back (argC (getM 2) (argC (cst (.int 2)) (argN)))))) (notT (tst (callF f_goes_back (argC (getM 3) (argC (cst (.int 3)) (argN))))))) (retS (cst (.bool false))) (nilS))
  (retS (bin fEq (callF f_met_from (argC (getM 2) (argC (getM 3) (argC (cst (.int 0)) (argN))))) (M.bind (argC (getM 1) (argN)) lrM))))))))
noncomputable def f_is_table : List D → FO := runF 4 m_is_table
noncomputable def m_is_word : M Fl := retS (vAnd (isi isStr (getM 0)) (vAnd (bin fLe (callB fLen (argC (getM 0) (argN))) (cst (.int 2000))) (callB fAll (argC (lcM (put1 1) (M.ret true) (M.bind (getM 1) (tabIn false [("s", (.tuple [(.int 0), (.int (-1)), (.int 1), (.int 0)])), ("r", (.tuple [(.int 0), (.int (-1)), (.int 1), (.int (-1))])), ("q", (.tuple [(.int 1), (.int (-1)), (.int 1), (.int 0)]))])) [1] (itA (getM 0))) (argN)))))
noncomputable def f_is_word : List D → FO := runF 1 m_is_word
noncomputable def m_word_leads : M Fl := seqM (asgS (asgSeq 2 (asgCons (asgR 4) (asgCons (asgR 5) (asgNil)))) (getM 0))
  (seqM (setS 2 (cst (.int 0)))
  (seqM (forS (asgR 3) (itA (getM 1)) (ifS (tcmp fEq (getM 3) (cst (.str "s"))) (setS 2 (bin fIx (getM 4) (getM 2))) (seqM (setS 2 (bin fIx (getM 5) (getM 2)))
  (ifS (tcmp fEq (getM 3) (cst (.str "q"))) (setS 2 (bin fIx (getM 5) (getM 2))) (nilS)))))
  (retS (getM 2))))
noncomputable def f_word_leads : List D → FO := runF 4 m_word_leads
noncomputable def m_look_out : M Fl := seqM (exS (callF f_ask (argC (callF f_is_table (argC (getM 0) (argN))) (argC (cst (.int 2)) (argN)))))
  (seqM (exS (callF f_ask (argC (callF f_is_word (argC (getM 1) (argN))) (argC (cst (.int 3)) (argN)))))
  (exS (callF f_ask (argC (vAnd (callF f_is_whole (argC (getM 2) (argN))) (vAnd (bin fNe (getM 2) (cst (.int 0))) (bin fEq (callF f_word_leads (argC (getM 0) (argC (getM 1) (argN)))) (getM 2)))) (argC (cst (.int 4)) (argN))))))
noncomputable def f_look_out : List D → FO := runF 0 m_look_out
noncomputable def m_put_behind : M Fl := ifS (orM (tcmp fEq (getM 0) (lstM (argN))) (tcmp fNe (bin fEq (bin fIx (getM 0) (un fNeg (cst (.int 1)))) (cst (.str "s"))) (bin fEq (getM 1) (cst (.str "s"))))) (exS (apE (getM 0) (getM 1))) (ifS (tcmp fEq (getM 1) (cst (.str "s"))) (exS (muE0 fPop (getM 0))) (seqM (setS 2 (bin fIx (cst (.tuple [(.str ""), (.str "r"), (.str "q")])) (bin fMod (bin fAdd (M.bind (muE0 fPop (getM 0)) (tabIx [("r", (.int 1)), ("q", (.int 2))])) (M.bind (getM 1) (tabIx [("r", (.int 1)), ("q", (.int 2))]))) (cst (.int 3)))))
  (exS (exE (getM 0) (callB fListU (argC (getM 2) (argN)))))))
noncomputable def f_put_behind : List D → List D → Option (List D × D) := runL 1 m_put_behind
noncomputable def m_shortened : M Fl := seqM (setS 1 (lstM (argN)))
  (seqM (forS (asgR 2) (itA (getM 0)) (exS (lentF f_put_behind (argC (getM 1) (argC (getM 2) (argN))))))
  (retS (mthE "str" fJoin (cst (.str "")) (argC (getM 1) (argN)))))
noncomputable def f_shortened : List D → FO := runF 2 m_shortened
noncomputable def m_steps_word : M Fl := seqM (ifS (tcmp fGt (getM 0) (cst (.int 0))) (retS (bin fMulS (cst (.str "qs")) (getM 0))) (nilS))
  (retS (bin fMulS (cst (.str "sr")) (bin fSub (cst (.int 0)) (getM 0))))
noncomputable def f_steps_word : List D → FO := runF 0 m_steps_word
noncomputable def m_steps_of : M Fl := seqM (asgS (asgSeq 4 (asgCons (asgR 3) (asgCons (asgR 4) (asgCons (asgR 5) (asgCons (asgR 6) (asgNil)))))) (getM 0))
  (seqM (setS 1 (lstM (argN)))
  (seqM (setS 2 (cst (.int 0)))
  (seqM (whileC (tcmp fNe (getM 5) (cst (.int 0))) (seqM (setS 7 (bin fDiv (getM 3) (getM 5)))
  (seqM (exS (apE (getM 1) (getM 7)))
  (seqM (augM 2 fAddI (bin fAdd (bin fMulI (cst (.int 2)) (callB fAbs (argC (getM 7) (argN)))) (cst (.int 1))))
  (seqM (ifS (tcmp fGt (getM 2) (cst (.int 12000))) (raiseM "TooLong") (nilS))
  (asgS (asgSeq 4 (asgCons (asgR 3) (asgCons (asgR 4) (asgCons (asgR 5) (asgCons (asgR 6) (asgNil)))))) (tupM (argC (bin fSub (cst (.int 0)) (getM 5)) (argC (bin fSub (cst (.int 0)) (getM 6)) (argC (bin fSub (getM 3) (bin fMulI (getM 7) (getM 5))) (argC (bin fSub (getM 4) (bin fMulI (getM 7) (getM 6))) (argN))))))))))))
  (seqM (exS (apE (getM 1) (bin fMulI (getM 4) (getM 6))))
  (seqM (ifS (tcmp fGt (bin fAdd (getM 2) (bin fMulI (cst (.int 2)) (callB fAbs (argC (getM 4) (argN))))) (cst (.int 12000))) (raiseM "TooLong") (nilS))
  (retS (getM 1)))))))
noncomputable def f_steps_of : List D → FO := runF 7 m_steps_of
noncomputable def m_word_of : M Fl := seqM (setS 1 (callF f_shortened (argC (mthE "str" fJoin (cst (.str "s")) (argC (lcM (put1 2) (M.ret true) (callF f_steps_word (argC (getM 2) (argN))) [2] (itA (callF f_steps_of (argC (getM 0) (argN))))) (argN))) (argN))))
  (seqM (ifS (tcmp fGt (callB fLen (argC (getM 1) (argN))) (cst (.int 2000))) (raiseM "TooLong") (nilS))
  (retS (getM 1)))
noncomputable def f_word_of : List D → FO := runF 2 m_word_of
noncomputable def m_short_word : M Fl := tryO (clsOf [("NoFan", false), ("NoPaper", false), ("NoTurning", false), ("TooLong", true)]) (retS (callF f_word_of (argC (getM 0) (argN)))) (retS (cst .none))
noncomputable def f_short_word : List D → FO := runF 0 m_short_word
noncomputable def m_keeps : M Fl := seqM (setS 2 (callF f_short_word (argC (getM 1) (argN))))
  (retS (vAnd (bin fIsNot (getM 2) (cst .none)) (bin fEq (callF f_word_leads (argC (getM 0) (argC (getM 2) (argN)))) (cst (.int 0)))))
noncomputable def f_keeps : List D → FO := runF 1 m_keeps
noncomputable def m_look_same : M Fl := seqM (exS (callF f_ask (argC (callF f_is_fan (argC (getM 0) (argN))) (argC (cst (.int 2)) (argN)))))
  (seqM (exS (callF f_ask (argC (callF f_is_table (argC (getM 1) (argN))) (argC (cst (.int 3)) (argN)))))
  (seqM (exS (callF f_ask (argC (bin fEq (callF f_many_places (argC (getM 0) (argN))) (callB fLen (argC (bin fIx (getM 1) (cst (.int 0))) (argN)))) (argC (cst (.int 4)) (argN)))))
  (exS (callF f_ask (argC (callB fAll (argC (lcM (put1 2) (M.ret true) (callF f_keeps (argC (getM 1) (argC (callF f_glue (argC (getM 0) (argC (getM 2) (argN)))) (argN)))) [2] (itR1 (argC (callB fLen (argC (bin fIx (getM 0) (cst (.int 0))) (argN))) (argN)))) (argN))) (argC (cst (.int 4)) (argN)))))))
noncomputable def f_look_same : List D → FO := runF 1 m_look_same
noncomputable def m_is_nothing_by : M Fl := seqM (asgS (asgSeq 4 (asgCons (asgR 2) (asgCons (asgR 3) (asgCons (asgR 4) (asgCons (asgR 5) (asgNil)))))) (getM 0))
  (seqM (ifS (orM (tcmp fNe (bin fMod (getM 3) (getM 1)) (cst (.int 0))) (tcmp fNe (bin fMod (getM 4) (getM 1)) (cst (.int 0)))) (retS (cst (.bool false))) (nilS))
  (retS (vOr (vAnd (bin fEq (bin fMod (bin fSub (getM 2) (cst (.int 1))) (getM 1)) (cst (.int 0))) (bin fEq (bin fMod (bin fSub (getM 5) (cst (.int 1))) (getM 1)) (cst (.int 0)))) (vAnd (bin fEq (bin fMod (bin fAdd (getM 2) (cst (.int 1))) (getM 1)) (cst (.int 0))) (bin fEq (bin fMod (bin fAdd (getM 5) (cst (.int 1))) (getM 1)) (cst (.int 0)))))))
noncomputable def f_is_nothing_by : List D → FO := runF 4 m_is_nothing_by
noncomputable def m_look_leaver : M Fl := seqM (exS (callF f_ask (argC (callF f_is_table (argC (getM 0) (argN))) (argC (cst (.int 2)) (argN)))))
  (seqM (exS (callF f_ask (argC (vAnd (callF f_is_whole (argC (getM 1) (argN))) (chM (fun i j => decide (i ≤ j)) (fun i j => decide (i ≤ j)) (cst (.int 1)) (getM 1) (cst (.int 24)))) (argC (cst (.int 3)) (argN)))))
  (seqM (exS (callF f_ask (argC (vAnd (callF f_is_turning (argC (getM 2) (argN))) (vAnd (callF f_is_nothing_by (argC (getM 2) (argC (getM 1) (argN)))) (bin fIsNot (callF f_short_word (argC (getM 2) (argN))) (cst .none)))) (argC (cst (.int 4)) (argN)))))
  (exS (callF f_ask (argC (notV (callF f_keeps (argC (getM 0) (argC (getM 2) (argN))))) (argC (cst (.int 5)) (argN)))))))
noncomputable def f_look_leaver : List D → FO := runF 0 m_look_leaver
noncomputable def m_looked : M Fl := seqM (exS (callF f_ask (argC (vAnd (isi isTup (getM 0)) (vAnd (bin fGt (callB fLen (argC (getM 0) (argN))) (cst (.int 0))) (isi isStr (bin fIx (getM 0) (cst (.int 0)))))) (argC (cst (.int 1)) (argN)))))
  (seqM (setS 1 (bin fIx (getM 0) (cst (.int 0))))
  (seqM (exS (callF f_ask (argC (vAnd (M.bind (getM 1) (tabIn false [("in", (.int 4)), ("out", (.int 4)), ("same", (.int 3)), ("leaver", (.int 4))])) (bin fEq (callB fLen (argC (getM 0) (argN))) (M.bind (getM 1) (tabIx [("in", (.int 4)), ("out", (.int 4)), ("same", (.int 3)), ("leaver", (.int 4))])))) (argC (cst (.int 1)) (argN)))))
  (ifS (tcmp fEq (getM 1) (cst (.str "in"))) (exS (callF f_look_in (argC (bin fIx (getM 0) (cst (.int 1))) (argC (bin fIx (getM 0) (cst (.int 2))) (argC (bin fIx (getM 0) (cst (.int 3))) (argN)))))) (ifS (tcmp fEq (getM 1) (cst (.str "out"))) (exS (callF f_look_out (argC (bin fIx (getM 0) (cst (.int 1))) (argC (bin fIx (getM 0) (cst (.int 2))) (argC (bin fIx (getM 0) (cst (.int 3))) (argN)))))) (ifS (tcmp fEq (getM 1) (cst (.str "same"))) (exS (callF f_look_same (argC (bin fIx (getM 0) (cst (.int 1))) (argC (bin fIx (getM 0) (cst (.int 2))) (argN))))) (exS (callF f_look_leaver (argC (bin fIx (getM 0) (cst (.int 1))) (argC (bin fIx (getM 0) (cst (.int 2))) (argC (bin fIx (getM 0) (cst (.int 3))) (argN)))))))))))
noncomputable def f_looked : List D → FO := runF 1 m_looked
noncomputable def m__law_failed : M Fl := seqM (tryG 1 (clsOf [("NoFan", false), ("NoPaper", true), ("NoTurning", false), ("TooLong", false)]) (ifS (tcmp fIsNot (callF f_looked (argC (getM 0) (argN))) (cst .none)) (retS (un fNeg (cst (.int 1)))) (nilS)) "at")
  (retS (cst (.int 0)))
noncomputable def f__law_failed : List D → FO := runF 1 m__law_failed
noncomputable def m_law : M Fl := seqM (forS (asgR 1) (itR1 (argC (callB fMax2 (argC (cst (.int 1)) (argC (callB fMin2 (argC (cst (.int 5)) (argC (callB fLen (argC (getM 0) (argN))) (argN)))) (argN)))) (argN))) (seqM (setS 2 (callF f__law_cell (argC (getM 0) (argC (getM 1) (argN)))))
  (seqM (setS 3 (callF f__law_row (argC (getM 2) (argC (cst (.int 41)) (argC (cst (.int 1400)) (argN))))))
  (forS (asgR 4) (itR1 (argC (cst (.int 4)) (argN))) (seqM (setS 5 (lenF (f__law_thing 6) (argC (getM 3) (argC (cst (.int 4)) (argN)))))
  (seqM (ifS (andM (tst (isi isTup (getM 5))) (andM (tcmp fGt (callB fLen (argC (getM 5) (argN))) (cst (.int 0))) (tcmp fIn (bin fIx (getM 5) (cst (.int 0))) (lstM (argC (cst (.str "in")) (argC (cst (.str "out")) (argC (cst (.str "same")) (argC (cst (.str "leaver")) (argN))))))))) (setS 5 (bin fAdd (tupM (argC (cst (.int 0)) (argN))) (slM (getM 5) (M.bind (cst (.int 1)) asInt) (M.ret none)))) (nilS))
  (seqM (ifS (tcmp fNe (callF f__law_failed (argC (getM 5) (argN))) (cst (.int 1))) (retS (cst (.bool false))) (nilS))
  (seqM (setS 6 (bin fMod (muE0 fPop (getM 3)) (cst (.int 4))))
  (seqM (setS 7 (bin fAdd (cst (.int 1)) (bin fMod (muE0 fPop (getM 3)) (cst (.int 5)))))
  (seqM (setS 8 (lstM (argN)))
  (seqM (forS (asgR 9) (itR1 (argC (bin fSub (getM 7) (cst (.int 1))) (argN))) (seqM (setS 11 (lenF (f__law_thing 6) (argC (getM 3) (argC (cst (.int 2)) (argN)))))
  (seqM (ifS (andM (tcmp fEq (getM 9) (cst (.int 0))) (tst (isi isTup (getM 11)))) (setS 11 (callB fListU (argC (getM 11) (argN)))) (nilS))
  (exS (apE (getM 8) (getM 11))))))
  (seqM (setS 10 (bin fAdd (cst (.int 1)) (callB fInt1 (argC (bin fEq (getM 7) (bin fIx (lstM (argC (cst (.int 4)) (argC (cst (.int 4)) (argC (cst (.int 3)) (argC (cst (.int 4)) (argN)))))) (getM 6))) (argN)))))
  (ifS (tcmp fNe (callF f__law_failed (argC (bin fAdd (tupM (argC (bin fIx (lstM (argC (cst (.str "in")) (argC (cst (.str "out")) (argC (cst (.str "same")) (argC (cst (.str "leaver")) (argN)))))) (getM 6)) (argN))) (callB fTuple (argC (getM 8) (argN)))) (argN))) (getM 10)) (retS (cst (.bool false))) (nilS))))))))))))))
  (retS (cst (.bool true)))
noncomputable def f_law : List D → FO := runF 11 m_law
/-! ### walks -/
theorem bi_iNoPaper {w : World} {K : PySem.W.Frag} {mg : Str → Option Value} (c : Facts w K mg) : Binds K c.fd_iNoPaper ["self", "at"] [] := c.F_iNoPaper.bindsN fun _ _ _ _ _ _ us hl => match us, hl with | [_, _], _ => rfl
theorem ok_iNoPaper {P : Program} {w : World} {base : Heap} {K : PySem.W.Frag} {mg : Str → Option Value} (c : Facts w K mg) : FnOk P w K mg base (L2.CX P w) 1 c.f_iNoPaper c.fd_iNoPaper ["self", "at"] (spI1 (He.ga K "NoPaper") "at") :=
  init1_ok c.r_NoPaper.o c.n_NoPaper_at c.B_FanError rfl c.b_str (by decide +kernel) c.F_iNoPaper sc_iNoPaper (.inl rfl) (.inl rfl) rfl rfl (fun _ _ _ _ _ _ => ⟨by rfl, by rfl⟩) (fun _ _ _ _ _ _ => ⟨_, rfl⟩)
theorem bi_iNoFan {w : World} {K : PySem.W.Frag} {mg : Str → Option Value} (c : Facts w K mg) : Binds K c.fd_iNoFan ["self", "where", "at"] [] := c.F_iNoFan.bindsN fun _ _ _ _ _ _ us hl => match us, hl with | [_, _, _], _ => rfl
theorem ok_iNoFan {P : Program} {w : World} {base : Heap} {K : PySem.W.Frag} {mg : Str → Option Value} (c : Facts w K mg) : FnOk P w K mg base (L2.CX P w) 1 c.f_iNoFan c.fd_iNoFan ["self", "where", "at"] (spI2 (He.ga K "NoFan") "where" "at") :=
  init2_ok c.r_NoFan.o c.n_NoFan_where c.n_NoFan_at c.B_FanError rfl ⟨by decide, by decide, by decide⟩ c.F_iNoFan sc_iNoFan (.inl rfl) (.inl rfl) (.inl rfl) rfl rfl rfl rfl (fun _ _ _ _ _ _ => by rfl) (fun _ _ _ _ _ _ => ⟨_, rfl⟩)
theorem bi__law_cell {w : World} {K : PySem.W.Frag} {mg : Str → Option Value} (c : Facts w K mg) : Binds K c.fd__law_cell ["_law_script", "_law_k"] [] := c.F__law_cell.bindsN fun _ _ _ _ _ _ us hl => match us, hl with | [_, _], _ => rfl
theorem ok__law_cell {P : Program} {w : World} {base : Heap} {K : PySem.W.Frag} {mg : Str → Option Value} (c : Facts w K mg) : FnOk P w K mg base (L2.CX P w) 1 c.f__law_cell c.fd__law_cell ["_law_script", "_law_k"] (spF K mg 2 f__law_cell) :=
  fn_ok (N := ["_law_script", "_law_k"]) (n := 0) c.F__law_cell sc__law_cell rfl fun cdv A outer s H E hr =>
  (jss_cons (js_if (jb_cmp op_lt cmpI_ok (nomark _) (j_var (i := 1) rfl (.inl rfl) rfl rfl) (j_callB call_len len_ok (by rfl) c.b_len (by decide +kernel) (js_cons (j_var (i := 0) rfl (.inl rfl) rfl rfl) js_nil (by rfl)) (by decide) (by rfl) (by rfl) (by rfl))) (jss_one (js_ret (j_ix (j_var (i := 0) rfl (.inl rfl) rfl rfl) (j_var (i := 1) rfl (.inl rfl) rfl rfl) (fun _ _ => rfl)))) jss_nil)
  (jss_one (js_ret j_int)))
theorem bi__law_mixed {w : World} {K : PySem.W.Frag} {mg : Str → Option Value} (c : Facts w K mg) : Binds K c.fd__law_mixed ["_law_cell_here", "_law_base", "_law_many"] [] := c.F__law_mixed.bindsN fun _ _ _ _ _ _ us hl => match us, hl with | [_, _, _], _ => rfl
theorem ok__law_mixed {P : Program} {w : World} {base : Heap} {K : PySem.W.Frag} {mg : Str → Option Value} (c : Facts w K mg) : FnOk P w K mg base (L2.CX P w) 1 c.f__law_mixed c.fd__law_mixed ["_law_cell_here", "_law_base", "_law_many"] (spF K mg 3 f__law_mixed) :=
  fn_ok (N := ["_law_cell_here", "_law_base", "_law_many", "_law_row_here", "_law_k", "_law_one", "_law_two"]) (n := 4) c.F__law_mixed sc__law_mixed rfl fun cdv A outer s H E hr =>
  (jss_cons (js_set (ps_set (i := 3) sc__law_mixed.nd rfl (.inl rfl) (j_lst js_nil)) (fun _ _ _ h => h))
  (jss_cons (js_for (passes_of rfl) rfl (ji_range1 (by rfl) c.b_range (js_cons (j_var (i := 2) rfl (.inl rfl) rfl rfl) js_nil (by rfl)) (by rfl)) (pg_name (i := 4) sc__law_mixed.nd rfl (.inl rfl)) (g_name) (jss_cons (js_set (ps_set (i := 5) sc__law_mixed.nd rfl (.inl rfl) (j_op op_modN mod_ok (j_op op_mulW mulI_ok (j_op op_addD add_ok (j_op op_addD add_ok (j_op op_addD add_ok (j_op op_modN mod_ok (j_var (i := 0) rfl (.inl rfl) rfl rfl) j_int) (j_op op_mulW mulI_ok (j_op op_mulW mulI_ok j_int (j_var (i := 4) rfl (.inl rfl) rfl rfl)) (j_var (i := 4) rfl (.inl rfl) rfl rfl))) (j_op op_mulW mulI_ok j_int (j_var (i := 4) rfl (.inl rfl) rfl rfl))) j_int) j_int) j_int)) (fun _ _ _ h => h))
  (jss_cons (js_set (ps_set (i := 6) sc__law_mixed.nd rfl (.inl rfl) (j_op op_modN mod_ok (j_op op_mulW mulI_ok (j_op op_addD add_ok (j_op op_addD add_ok (j_op op_fdivZ div_ok (j_var (i := 5) rfl (.inl rfl) rfl rfl) j_int) (j_op op_mulW mulI_ok (j_op op_modN mod_ok (j_op op_fdivZ div_ok (j_var (i := 0) rfl (.inl rfl) rfl rfl) j_int) j_int) j_int)) (j_var (i := 4) rfl (.inl rfl) rfl rfl)) j_int) j_int)) (fun _ _ _ h => h))
  (jss_one (js_expr (j_append (j_var (i := 3) rfl (.inl rfl) rfl rfl) (j_op op_modN mod_ok (j_op op_fdivZ div_ok (j_var (i := 6) rfl (.inl rfl) rfl rfl) j_int) (j_var (i := 1) rfl (.inl rfl) rfl rfl)) (by rfl) (by rfl) (by rfl) (by rfl) (by rfl)) rfl)))) (fun _ => rfl))
  (jss_one (js_ret (j_var (i := 3) rfl (.inl rfl) rfl rfl)))))
theorem bi__law_digits {w : World} {K : PySem.W.Frag} {mg : Str → Option Value} (c : Facts w K mg) : Binds K c.fd__law_digits ["_law_cell_here", "_law_base", "_law_many"] [] := c.F__law_digits.bindsN fun _ _ _ _ _ _ us hl => match us, hl with | [_, _, _], _ => rfl
theorem ok__law_digits {P : Program} {w : World} {base : Heap} {K : PySem.W.Frag} {mg : Str → Option Value} (c : Facts w K mg) : FnOk P w K mg base (L2.CX P w) 1 c.f__law_digits c.fd__law_digits ["_law_cell_here", "_law_base", "_law_many"] (spF K mg 3 f__law_digits) :=
  fn_ok (N := ["_law_cell_here", "_law_base", "_law_many", "_law_row_here", "_law_k"]) (n := 2) c.F__law_digits sc__law_digits rfl fun cdv A outer s H E hr =>
  (jss_cons (js_set (ps_set (i := 3) sc__law_digits.nd rfl (.inl rfl) (j_lst js_nil)) (fun _ _ _ h => h))
  (jss_cons (js_for (passes_of rfl) rfl (ji_range1 (by rfl) c.b_range (js_cons (j_var (i := 2) rfl (.inl rfl) rfl rfl) js_nil (by rfl)) (by rfl)) (pg_name (i := 4) sc__law_digits.nd rfl (.inl rfl)) (g_name) (jss_cons (js_expr (j_append (j_var (i := 3) rfl (.inl rfl) rfl rfl) (j_op op_modN mod_ok (j_var (i := 0) rfl (.inl rfl) rfl rfl) (j_var (i := 1) rfl (.inl rfl) rfl rfl)) (by rfl) (by rfl) (by rfl) (by rfl) (by rfl)) rfl)
  (jss_one (js_set (ps_set (i := 0) sc__law_digits.nd rfl (.inl rfl) (j_op op_fdivZ div_ok (j_var (i := 0) rfl (.inl rfl) rfl rfl) (j_var (i := 1) rfl (.inl rfl) rfl rfl))) (fun _ _ _ h => h)))) (fun _ => rfl))
  (jss_one (js_ret (j_var (i := 3) rfl (.inl rfl) rfl rfl)))))
theorem bi__law_row {w : World} {K : PySem.W.Frag} {mg : Str → Option Value} (c : Facts w K mg) : Binds K c.fd__law_row ["_law_cell_here", "_law_base", "_law_many"] [] := c.F__law_row.bindsN fun _ _ _ _ _ _ us hl => match us, hl with | [_, _, _], _ => rfl
theorem ok__law_row {P : Program} {w : World} {base : Heap} {K : PySem.W.Frag} {mg : Str → Option Value} (c : Facts w K mg) : FnOk P w K mg base (L2.CX P w) 2 c.f__law_row c.fd__law_row ["_law_cell_here", "_law_base", "_law_many"] (spF K mg 3 f__law_row) :=
  fn_ok (N := ["_law_cell_here", "_law_base", "_law_many"]) (n := 0) c.F__law_row sc__law_row rfl fun cdv A outer s H E hr =>
  (jss_cons (js_if (jb_cmp op_ge cmpI_ok (nomark _) (j_callB call_abs abs_ok (by rfl) c.b_abs (by decide +kernel) (js_cons (j_var (i := 0) rfl (.inl rfl) rfl rfl) js_nil (by rfl)) (by decide) (by rfl) (by rfl) (by rfl)) (j_op op_powW pow_ok j_int j_int)) (jss_one (js_ret (j_call ((ok__law_digits c).mono (by decide)) hr (takes_of (by rfl) (by rfl) (by rfl) (by rfl)) (by rfl) c.g__law_digits c.F__law_digits.kp (bi__law_digits c) (js_cons (j_var (i := 0) rfl (.inl rfl) rfl rfl) (js_cons (j_var (i := 1) rfl (.inl rfl) rfl rfl) (js_cons (j_var (i := 2) rfl (.inl rfl) rfl rfl) js_nil (by rfl)) (by rfl)) (by rfl)) (lenC (lenC (lenC lenN))) (by rfl) (by rfl) (by rfl)))) jss_nil)
  (jss_one (js_ret (j_call ((ok__law_mixed c).mono (by decide)) hr (takes_of (by rfl) (by rfl) (by rfl) (by rfl)) (by rfl) c.g__law_mixed c.F__law_mixed.kp (bi__law_mixed c) (js_cons (j_var (i := 0) rfl (.inl rfl) rfl rfl) (js_cons (j_var (i := 1) rfl (.inl rfl) rfl rfl) (js_cons (j_var (i := 2) rfl (.inl rfl) rfl rfl) js_nil (by rfl)) (by rfl)) (by rfl)) (lenC (lenC (lenC lenN))) (by rfl) (by rfl) (by rfl)))))
theorem bi__law_thing {w : World} {K : PySem.W.Frag} {mg : Str → Option Value} (c : Facts w K mg) : Binds K c.fd__law_thing ["_law_digits_here", "_law_deep"] [] := c.F__law_thing.bindsN fun _ _ _ _ _ _ us hl => match us, hl with | [_, _], _ => rfl
theorem ok__law_thing {P : Program} {w : World} {base : Heap} {K : PySem.W.Frag} {mg : Str → Option Value} (c : Facts w K mg) : ∀ n : Nat, FnOk P w K mg base (L2.CX P w) (1 + n) c.f__law_thing c.fd__law_thing ["_law_digits_here", "_law_deep"] (spM K 2 (f__law_thing n))
  | 0 => fn_none (N := ["_law_digits_here", "_law_deep", "_law_way", "_law_inner", "_law_k"]) c.F__law_thing sc__law_thing
  | n + 1 => fn_okM (N := ["_law_digits_here", "_law_deep", "_law_way", "_law_inner", "_law_k"]) (n := 3) c.F__law_thing sc__law_thing rfl fun cdv A outer s H E hr =>
  (jss_cons (js_set (ps_set (i := 2) sc__law_thing.nd rfl (.inl rfl) (j_op op_modN mod_ok (j_mut0 PySem.F.plainAttrs_list PySem.F.slot_list_pop PySem.F.type_list_pop mt_pop pop_ok (j_var (i := 0) rfl (.inl rfl) rfl rfl) (by rfl) (by rfl)) j_int)) (fun _ _ _ h => h))
  (jss_cons (js_if (jw_or (jb_cmp (op_eqX (hu64 hr)) eq_ok (nomark _) (j_var (i := 2) rfl (.inl rfl) rfl rfl) j_int) (jw_or1 (jb_cmp (op_eqX (hu64 hr)) eq_ok (nomark _) (j_var (i := 1) rfl (.inl rfl) rfl rfl) j_int))).pt (jss_one (js_ret (j_ix (j_lst (js_cons j_non (js_cons j_bl (js_cons j_bl (js_cons j_int (js_cons j_int (js_cons (j_un un_neg neg_ok j_int) (js_cons (j_op op_powW pow_ok j_int j_int) (js_cons j_str (js_cons j_str (js_cons j_str (js_cons j_str (js_cons (j_tup js_nil) (js_cons (j_lst js_nil) js_nil (by rfl)) (by rfl)) (by rfl)) (by rfl)) (by rfl)) (by rfl)) (by rfl)) (by rfl)) (by rfl)) (by rfl)) (by rfl)) (by rfl)) (by rfl))) (j_op op_modN mod_ok (j_mut0 PySem.F.plainAttrs_list PySem.F.slot_list_pop PySem.F.type_list_pop mt_pop pop_ok (j_var (i := 0) rfl (.inl rfl) rfl rfl) (by rfl) (by rfl)) j_int) (fun _ _ => rfl)))) jss_nil)
  (jss_cons (js_if (jb_cmp op_lt cmpI_ok (nomark _) (j_var (i := 2) rfl (.inl rfl) rfl rfl) j_int) (jss_one (js_ret (j_op op_sub sub_ok (j_mut0 PySem.F.plainAttrs_list PySem.F.slot_list_pop PySem.F.type_list_pop mt_pop pop_ok (j_var (i := 0) rfl (.inl rfl) rfl rfl) (by rfl) (by rfl)) j_int))) jss_nil)
  (jss_cons (js_if (jb_cmp op_lt cmpI_ok (nomark _) (j_var (i := 2) rfl (.inl rfl) rfl rfl) j_int) (jss_one (js_ret (j_ix (j_lst (js_cons j_str (js_cons j_str (js_cons j_str (js_cons j_str (js_cons j_str (js_cons j_str js_nil (by rfl)) (by rfl)) (by rfl)) (by rfl)) (by rfl)) (by rfl))) (j_op op_modN mod_ok (j_mut0 PySem.F.plainAttrs_list PySem.F.slot_list_pop PySem.F.type_list_pop mt_pop pop_ok (j_var (i := 0) rfl (.inl rfl) rfl rfl) (by rfl) (by rfl)) j_int) (fun _ _ => rfl)))) jss_nil)
  (jss_cons (js_set (ps_set (i := 3) sc__law_thing.nd rfl (.inl rfl) (j_lst js_nil)) (fun _ _ _ h => h))
  (jss_cons (js_for (passes_of rfl) rfl (ji_range1 (by rfl) c.b_range (js_cons (j_op op_modN mod_ok (j_mut0 PySem.F.plainAttrs_list PySem.F.slot_list_pop PySem.F.type_list_pop mt_pop pop_ok (j_var (i := 0) rfl (.inl rfl) rfl rfl) (by rfl) (by rfl)) j_int) js_nil (by rfl)) (by rfl)) (pg_name (i := 4) sc__law_thing.nd rfl (.inl rfl)) (g_name) (jss_one (js_expr (j_append (j_var (i := 3) rfl (.inl rfl) rfl rfl) (j_callM ((ok__law_thing c n).mono (by show _ ≤ 1 + n; omega)) hr (takes_of (by rfl) (by rfl) (by rfl) (by rfl)) (by rfl) c.g__law_thing c.F__law_thing.kp (bi__law_thing c) (js_cons (j_var (i := 0) rfl (.inl rfl) rfl rfl) (js_cons (j_op op_sub sub_ok (j_var (i := 1) rfl (.inl rfl) rfl rfl) j_int) js_nil (by rfl)) (by rfl)) (lenC (lenC lenN)) (by rfl) (by rfl) (by rfl)) (by rfl) (by rfl) (by rfl) (by rfl) (by rfl)) rfl)) (fun _ => rfl))
  (jss_one (js_ret (j_ix (j_lst (js_cons (j_var (i := 3) rfl (.inl rfl) rfl rfl) (js_cons (j_callTy call_tuple_of tuple_ok (by rfl) c.b_tuple (by decide +kernel) (js_cons (j_var (i := 3) rfl (.inl rfl) rfl rfl) js_nil (by rfl)) (by decide) (by rfl) (by rfl) (by rfl)) js_nil (by rfl)) (by rfl))) (j_op op_modN mod_ok (j_var (i := 2) rfl (.inl rfl) rfl rfl) j_int) (fun _ _ => rfl))))))))))
theorem bi_ask {w : World} {K : PySem.W.Frag} {mg : Str → Option Value} (c : Facts w K mg) : Binds K c.fd_ask ["holds", "at"] [] := c.F_ask.bindsN fun _ _ _ _ _ _ us hl => match us, hl with | [_, _], _ => rfl
theorem ok_ask {P : Program} {w : World} {base : Heap} {K : PySem.W.Frag} {mg : Str → Option Value} (c : Facts w K mg) : FnOk P w K mg base (L2.CX P w) 3 c.f_ask c.fd_ask ["holds", "at"] (spF K mg 2 f_ask) :=
  fn_ok (N := ["holds", "at"]) (n := 0) c.F_ask sc_ask rfl fun cdv A outer s H E hr =>
  (jss_one (js_if (jb_not (jb_val (j_var (i := 0) rfl (.inl rfl) rfl rfl) (fun _ => rfl))) (jss_one (js_raiseG rfl (takes_of (by rfl) (by rfl) (by rfl) (by rfl)) c.r_NoPaper ((ok_iNoPaper c).mono (by decide)) hr (bi_iNoPaper c) (by rfl) (by rfl) (js_cons (j_var (i := 1) rfl (.inl rfl) rfl rfl) js_nil (by rfl)) (by rfl) (by rfl))) jss_nil))
theorem bi_is_whole {w : World} {K : PySem.W.Frag} {mg : Str → Option Value} (c : Facts w K mg) : Binds K c.fd_is_whole ["thing"] [] := c.F_is_whole.bindsN fun _ _ _ _ _ _ us hl => match us, hl with | [_], _ => rfl
theorem ok_is_whole {P : Program} {w : World} {base : Heap} {K : PySem.W.Frag} {mg : Str → Option Value} (c : Facts w K mg) : FnOk P w K mg base (L2.CX P w) 1 c.f_is_whole c.fd_is_whole ["thing"] (spF K mg 1 f_is_whole) :=
  fn_ok (N := ["thing"]) (n := 0) c.F_is_whole sc_is_whole rfl fun cdv A outer s H E hr =>
  (jss_one (js_ret (j_and (j_isi kit_int (by rfl) c.b_isinstance (by rfl) c.b_int (by decide +kernel) (j_var (i := 0) rfl (.inl rfl) rfl rfl) (by decide) (by rfl) (by rfl) (by rfl) (by rfl)) (j_one (j_not (j_isi kit_bool (by rfl) c.b_isinstance (by rfl) c.b_bool (by decide +kernel) (j_var (i := 0) rfl (.inl rfl) rfl rfl) (by decide) (by rfl) (by rfl) (by rfl) (by rfl)))))))
theorem bi_common_part {w : World} {K : PySem.W.Frag} {mg : Str → Option Value} (c : Facts w K mg) : Binds K c.fd_common_part ["one", "other"] [] := c.F_common_part.bindsN fun _ _ _ _ _ _ us hl => match us, hl with | [_, _], _ => rfl
theorem ok_common_part {P : Program} {w : World} {base : Heap} {K : PySem.W.Frag} {mg : Str → Option Value} (c : Facts w K mg) : FnOk P w K mg base (L2.CX P w) 1 c.f_common_part c.fd_common_part ["one", "other"] (spF K mg 2 f_common_part) :=
  fn_ok (N := ["one", "other"]) (n := 0) c.F_common_part sc_common_part rfl fun cdv A outer s H E hr =>
  (jss_cons (js_set (ps_set (i := 0) sc_common_part.nd rfl (.inl rfl) (j_callB call_abs abs_ok (by rfl) c.b_abs (by decide +kernel) (js_cons (j_var (i := 0) rfl (.inl rfl) rfl rfl) js_nil (by rfl)) (by decide) (by rfl) (by rfl) (by rfl))) (fun _ _ _ h => h))
  (jss_cons (js_set (ps_set (i := 1) sc_common_part.nd rfl (.inl rfl) (j_callB call_abs abs_ok (by rfl) c.b_abs (by decide +kernel) (js_cons (j_var (i := 1) rfl (.inl rfl) rfl rfl) js_nil (by rfl)) (by decide) (by rfl) (by rfl) (by rfl))) (fun _ _ _ h => h))
  (jss_cons (js_whileC (passes_of rfl) (jb_cmp op_gt cmpI_ok (nomark _) (j_var (i := 1) rfl (.inl rfl) rfl rfl) j_int) (jss_one (js_par (i := 0) (j := 1) rfl sc_common_part.nd rfl rfl (by decide) rfl rfl (js_cons (j_var (i := 1) rfl (.inl rfl) rfl rfl) (js_cons (j_op op_modN mod_ok (j_var (i := 0) rfl (.inl rfl) rfl rfl) (j_var (i := 1) rfl (.inl rfl) rfl rfl)) js_nil (by rfl)) (by rfl)) rfl rfl)))
  (jss_one (js_ret (j_var (i := 0) rfl (.inl rfl) rfl rfl))))))
theorem bi_is_fraction {w : World} {K : PySem.W.Frag} {mg : Str → Option Value} (c : Facts w K mg) : Binds K c.fd_is_fraction ["thing"] [] := c.F_is_fraction.bindsN fun _ _ _ _ _ _ us hl => match us, hl with | [_], _ => rfl
theorem ok_is_fraction {P : Program} {w : World} {base : Heap} {K : PySem.W.Frag} {mg : Str → Option Value} (c : Facts w K mg) : FnOk P w K mg base (L2.CX P w) 2 c.f_is_fraction c.fd_is_fraction ["thing"] (spF K mg 1 f_is_fraction) :=
  fn_ok (N := ["thing"]) (n := 0) c.F_is_fraction sc_is_fraction rfl fun cdv A outer s H E hr =>
  (jss_cons (js_if (jw_or (jb_not (jb_val (j_isi kit_tup (by rfl) c.b_isinstance (by rfl) c.b_tuple (by decide +kernel) (j_var (i := 0) rfl (.inl rfl) rfl rfl) (by decide) (by rfl) (by rfl) (by rfl) (by rfl)) (fun _ => rfl))) (jw_or (jb_cmp (op_neX (hu64 hr)) ne_ok (nomark _) (j_callB call_len len_ok (by rfl) c.b_len (by decide +kernel) (js_cons (j_var (i := 0) rfl (.inl rfl) rfl rfl) js_nil (by rfl)) (by decide) (by rfl) (by rfl) (by rfl)) j_int) (jw_or (jb_not (jb_val (j_call ((ok_is_whole c).mono (by decide)) hr (takes_of (by rfl) (by rfl) (by rfl) (by rfl)) (by rfl) c.g_is_whole c.F_is_whole.kp (bi_is_whole c) (js_cons (j_ix (j_var (i := 0) rfl (.inl rfl) rfl rfl) j_int (fun _ _ => rfl)) js_nil (by rfl)) (lenC lenN) (by rfl) (by rfl) (by rfl)) (fun _ => rfl))) (jw_or1 (jb_not (jb_val (j_call ((ok_is_whole c).mono (by decide)) hr (takes_of (by rfl) (by rfl) (by rfl) (by rfl)) (by rfl) c.g_is_whole c.F_is_whole.kp (bi_is_whole c) (js_cons (j_ix (j_var (i := 0) rfl (.inl rfl) rfl rfl) j_int (fun _ _ => rfl)) js_nil (by rfl)) (lenC lenN) (by rfl) (by rfl) (by rfl)) (fun _ => rfl))))))).pt (jss_one (js_ret j_bl)) jss_nil)
  (jss_cons (js_if (jb_cmp (op_eqX (hu64 hr)) eq_ok (nomark _) (j_ix (j_var (i := 0) rfl (.inl rfl) rfl rfl) j_int (fun _ _ => rfl)) j_int) (jss_one (js_ret (j_cmp (op_eqX (hu64 hr)) eq_ok (nomark _) (j_ix (j_var (i := 0) rfl (.inl rfl) rfl rfl) j_int (fun _ _ => rfl)) j_int))) jss_nil)
  (jss_one (js_ret (j_and (j_cmp op_gt cmpI_ok (nomark _) (j_ix (j_var (i := 0) rfl (.inl rfl) rfl rfl) j_int (fun _ _ => rfl)) j_int) (j_one (j_cmp (op_eqX (hu64 hr)) eq_ok (nomark _) (j_call ((ok_common_part c).mono (by decide)) hr (takes_of (by rfl) (by rfl) (by rfl) (by rfl)) (by rfl) c.g_common_part c.F_common_part.kp (bi_common_part c) (js_cons (j_ix (j_var (i := 0) rfl (.inl rfl) rfl rfl) j_int (fun _ _ => rfl)) (js_cons (j_ix (j_var (i := 0) rfl (.inl rfl) rfl rfl) j_int (fun _ _ => rfl)) js_nil (by rfl)) (by rfl)) (lenC (lenC lenN)) (by rfl) (by rfl) (by rfl)) j_int)))))))
theorem bi_cross {w : World} {K : PySem.W.Frag} {mg : Str → Option Value} (c : Facts w K mg) : Binds K c.fd_cross ["one", "other"] [] := c.F_cross.bindsN fun _ _ _ _ _ _ us hl => match us, hl with | [_, _], _ => rfl
theorem ok_cross {P : Program} {w : World} {base : Heap} {K : PySem.W.Frag} {mg : Str → Option Value} (c : Facts w K mg) : FnOk P w K mg base (L2.CX P w) 1 c.f_cross c.fd_cross ["one", "other"] (spF K mg 2 f_cross) :=
  fn_ok (N := ["one", "other"]) (n := 0) c.F_cross sc_cross rfl fun cdv A outer s H E hr =>
  (jss_one (js_ret (j_op op_sub sub_ok (j_op op_mulW mulI_ok (j_ix (j_var (i := 0) rfl (.inl rfl) rfl rfl) j_int (fun _ _ => rfl)) (j_ix (j_var (i := 1) rfl (.inl rfl) rfl rfl) j_int (fun _ _ => rfl))) (j_op op_mulW mulI_ok (j_ix (j_var (i := 0) rfl (.inl rfl) rfl rfl) j_int (fun _ _ => rfl)) (j_ix (j_var (i := 1) rfl (.inl rfl) rfl rfl) j_int (fun _ _ => rfl))))))
theorem bi_are_neighbours {w : World} {K : PySem.W.Frag} {mg : Str → Option Value} (c : Facts w K mg) : Binds K c.fd_are_neighbours ["one", "other"] [] := c.F_are_neighbours.bindsN fun _ _ _ _ _ _ us hl => match us, hl with | [_, _], _ => rfl
theorem ok_are_neighbours {P : Program} {w : World} {base : Heap} {K : PySem.W.Frag} {mg : Str → Option Value} (c : Facts w K mg) : FnOk P w K mg base (L2.CX P w) 2 c.f_are_neighbours c.fd_are_neighbours ["one", "other"] (spF K mg 2 f_are_neighbours) :=
  fn_ok (N := ["one", "other"]) (n := 0) c.F_are_neighbours sc_are_neighbours rfl fun cdv A outer s H E hr =>
  (jss_one (js_ret (j_cmp (op_eqX (hu64 hr)) eq_ok (nomark _) (j_callB call_abs abs_ok (by rfl) c.b_abs (by decide +kernel) (js_cons (j_call ((ok_cross c).mono (by decide)) hr (takes_of (by rfl) (by rfl) (by rfl) (by rfl)) (by rfl) c.g_cross c.F_cross.kp (bi_cross c) (js_cons (j_var (i := 0) rfl (.inl rfl) rfl rfl) (js_cons (j_var (i := 1) rfl (.inl rfl) rfl rfl) js_nil (by rfl)) (by rfl)) (lenC (lenC lenN)) (by rfl) (by rfl) (by rfl)) js_nil (by rfl)) (by decide) (by rfl) (by rfl) (by rfl)) j_int)))
theorem bi_is_above {w : World} {K : PySem.W.Frag} {mg : Str → Option Value} (c : Facts w K mg) : Binds K c.fd_is_above ["one", "other"] [] := c.F_is_above.bindsN fun _ _ _ _ _ _ us hl => match us, hl with | [_, _], _ => rfl
theorem ok_is_above {P : Program} {w : World} {base : Heap} {K : PySem.W.Frag} {mg : Str → Option Value} (c : Facts w K mg) : FnOk P w K mg base (L2.CX P w) 2 c.f_is_above c.fd_is_above ["one", "other"] (spF K mg 2 f_is_above) :=
  fn_ok (N := ["one", "other"]) (n := 0) c.F_is_above sc_is_above rfl fun cdv A outer s H E hr =>
  (jss_one (js_ret (j_cmp op_gt cmpI_ok (nomark _) (j_call ((ok_cross c).mono (by decide)) hr (takes_of (by rfl) (by rfl) (by rfl) (by rfl)) (by rfl) c.g_cross c.F_cross.kp (bi_cross c) (js_cons (j_var (i := 0) rfl (.inl rfl) rfl rfl) (js_cons (j_var (i := 1) rfl (.inl rfl) rfl rfl) js_nil (by rfl)) (by rfl)) (lenC (lenC lenN)) (by rfl) (by rfl) (by rfl)) j_int)))
theorem bi_fits_fraction {w : World} {K : PySem.W.Frag} {mg : Str → Option Value} (c : Facts w K mg) : Binds K c.fd_fits_fraction ["fractions", "i"] [] := c.F_fits_fraction.bindsN fun _ _ _ _ _ _ us hl => match us, hl with | [_, _], _ => rfl
theorem ok_fits_fraction {P : Program} {w : World} {base : Heap} {K : PySem.W.Frag} {mg : Str → Option Value} (c : Facts w K mg) : FnOk P w K mg base (L2.CX P w) 3 c.f_fits_fraction c.fd_fits_fraction ["fractions", "i"] (spF K mg 2 f_fits_fraction) :=
  fn_ok (N := ["fractions", "i", "here"]) (n := 1) c.F_fits_fraction sc_fits_fraction rfl fun cdv A outer s H E hr =>
  (jss_cons (js_set (ps_set (i := 2) sc_fits_fraction.nd rfl (.inl rfl) (j_ix (j_var (i := 0) rfl (.inl rfl) rfl rfl) (j_var (i := 1) rfl (.inl rfl) rfl rfl) (fun _ _ => rfl))) (fun _ _ _ h => h))
  (jss_cons (js_if (jb_not (jb_val (j_call ((ok_is_fraction c).mono (by decide)) hr (takes_of (by rfl) (by rfl) (by rfl) (by rfl)) (by rfl) c.g_is_fraction c.F_is_fraction.kp (bi_is_fraction c) (js_cons (j_var (i := 2) rfl (.inl rfl) rfl rfl) js_nil (by rfl)) (lenC lenN) (by rfl) (by rfl) (by rfl)) (fun _ => rfl))) (jss_one (js_ret j_bl)) jss_nil)
  (jss_cons (js_if (jb_cmp (op_eqX (hu64 hr)) eq_ok (nomark _) (j_var (i := 1) rfl (.inl rfl) rfl rfl) j_int) (jss_one (js_ret (j_cmp (op_eqX (hu64 hr)) eq_ok (nomark _) (j_var (i := 2) rfl (.inl rfl) rfl rfl) (j_glob (by rfl) c.c_ENDLESS (by rfl))))) jss_nil)
  (jss_cons (js_if (jw_or (jb_cmp (op_eqX (hu64 hr)) eq_ok (nomark _) (j_var (i := 2) rfl (.inl rfl) rfl rfl) (j_glob (by rfl) c.c_ENDLESS (by rfl))) (jw_or1 (jb_not (jb_val (j_call ((ok_are_neighbours c).mono (by decide)) hr (takes_of (by rfl) (by rfl) (by rfl) (by rfl)) (by rfl) c.g_are_neighbours c.F_are_neighbours.kp (bi_are_neighbours c) (js_cons (j_ix (j_var (i := 0) rfl (.inl rfl) rfl rfl) (j_op op_sub sub_ok (j_var (i := 1) rfl (.inl rfl) rfl rfl) j_int) (fun _ _ => rfl)) (js_cons (j_var (i := 2) rfl (.inl rfl) rfl rfl) js_nil (by rfl)) (by rfl)) (lenC (lenC lenN)) (by rfl) (by rfl) (by rfl)) (fun _ => rfl))))).pt (jss_one (js_ret j_bl)) jss_nil)
  (jss_cons (js_if (jw_and (jb_cmp op_gt cmpI_ok (nomark _) (j_var (i := 1) rfl (.inl rfl) rfl rfl) j_int) (jw_and1 (jb_not (jb_val (j_call ((ok_is_above c).mono (by decide)) hr (takes_of (by rfl) (by rfl) (by rfl) (by rfl)) (by rfl) c.g_is_above c.F_is_above.kp (bi_is_above c) (js_cons (j_var (i := 2) rfl (.inl rfl) rfl rfl) (js_cons (j_ix (j_var (i := 0) rfl (.inl rfl) rfl rfl) (j_op op_sub sub_ok (j_var (i := 1) rfl (.inl rfl) rfl rfl) j_int) (fun _ _ => rfl)) js_nil (by rfl)) (by rfl)) (lenC (lenC lenN)) (by rfl) (by rfl) (by rfl)) (fun _ => rfl))))).pt (jss_one (js_ret j_bl)) jss_nil)
  (jss_one (js_ret (j_or (j_cmp op_lt cmpI_ok (nomark _) (j_var (i := 1) rfl (.inl rfl) rfl rfl) (j_op op_sub sub_ok (j_callB call_len len_ok (by rfl) c.b_len (by decide +kernel) (js_cons (j_var (i := 0) rfl (.inl rfl) rfl rfl) js_nil (by rfl)) (by decide) (by rfl) (by rfl) (by rfl)) j_int)) (j_one (j_call ((ok_are_neighbours c).mono (by decide)) hr (takes_of (by rfl) (by rfl) (by rfl) (by rfl)) (by rfl) c.g_are_neighbours c.F_are_neighbours.kp (bi_are_neighbours c) (js_cons (j_var (i := 2) rfl (.inl rfl) rfl rfl) (js_cons (j_glob (by rfl) c.c_ENDLESS (by rfl)) js_nil (by rfl)) (by rfl)) (lenC (lenC lenN)) (by rfl) (by rfl) (by rfl)))))))))))
theorem bi_look_at_fractions {w : World} {K : PySem.W.Frag} {mg : Str → Option Value} (c : Facts w K mg) : Binds K c.fd_look_at_fractions ["fractions"] [] := c.F_look_at_fractions.bindsN fun _ _ _ _ _ _ us hl => match us, hl with | [_], _ => rfl
theorem ok_look_at_fractions {P : Program} {w : World} {base : Heap} {K : PySem.W.Frag} {mg : Str → Option Value} (c : Facts w K mg) : FnOk P w K mg base (L2.CX P w) 4 c.f_look_at_fractions c.fd_look_at_fractions ["fractions"] (spF K mg 1 f_look_at_fractions) :=
  fn_ok (N := ["fractions", "i"]) (n := 1) c.F_look_at_fractions sc_look_at_fractions rfl fun cdv A outer s H E hr =>
  (jss_cons (js_if (jb_not (jb_chain op_le op_le (j_glob (by rfl) c.c_FEWEST (by rfl)) (j_callB call_len len_ok (by rfl) c.b_len (by decide +kernel) (js_cons (j_var (i := 0) rfl (.inl rfl) rfl rfl) js_nil (by rfl)) (by decide) (by rfl) (by rfl) (by rfl)) (j_glob (by rfl) c.c_MOST_fans (by rfl)) (by with_unfolding_all rfl))) (jss_one (js_raiseF rfl (takes_of (by rfl) (by rfl) (by rfl) (by rfl)) c.r_NoFan ((ok_iNoFan c).mono (by decide)) hr (bi_iNoFan c) (by rfl) (by rfl) (js_cons j_str (js_cons j_int js_nil (by rfl)) (by rfl)) (by rfl) (by rfl))) jss_nil)
  (jss_cons (js_for (passes_of rfl) rfl (ji_range1 (by rfl) c.b_range (js_cons (j_callB call_len len_ok (by rfl) c.b_len (by decide +kernel) (js_cons (j_var (i := 0) rfl (.inl rfl) rfl rfl) js_nil (by rfl)) (by decide) (by rfl) (by rfl) (by rfl)) js_nil (by rfl)) (by rfl)) (pg_name (i := 1) sc_look_at_fractions.nd rfl (.inl rfl)) (g_name) (jss_one (js_if (jb_not (jb_val (j_call ((ok_fits_fraction c).mono (by decide)) hr (takes_of (by rfl) (by rfl) (by rfl) (by rfl)) (by rfl) c.g_fits_fraction c.F_fits_fraction.kp (bi_fits_fraction c) (js_cons (j_var (i := 0) rfl (.inl rfl) rfl rfl) (js_cons (j_var (i := 1) rfl (.inl rfl) rfl rfl) js_nil (by rfl)) (by rfl)) (lenC (lenC lenN)) (by rfl) (by rfl) (by rfl)) (fun _ => rfl))) (jss_one (js_raiseF rfl (takes_of (by rfl) (by rfl) (by rfl) (by rfl)) c.r_NoFan ((ok_iNoFan c).mono (by decide)) hr (bi_iNoFan c) (by rfl) (by rfl) (js_cons j_str (js_cons (j_var (i := 1) rfl (.inl rfl) rfl rfl) js_nil (by rfl)) (by rfl)) (by rfl) (by rfl))) jss_nil)) (fun _ => rfl))
  (jss_one (js_if (jb_cmp (op_notInX (hu65 hr)) notIn_ok (by with_unfolding_all rfl) (j_glob (by rfl) c.c_NOUGHT (by rfl)) (j_var (i := 0) rfl (.inl rfl) rfl rfl)) (jss_one (js_raiseF rfl (takes_of (by rfl) (by rfl) (by rfl) (by rfl)) c.r_NoFan ((ok_iNoFan c).mono (by decide)) hr (bi_iNoFan c) (by rfl) (by rfl) (js_cons j_str (js_cons j_int js_nil (by rfl)) (by rfl)) (by rfl) (by rfl))) jss_nil))))
theorem bi_fits_mark {w : World} {K : PySem.W.Frag} {mg : Str → Option Value} (c : Facts w K mg) : Binds K c.fd_fits_mark ["marks", "i"] [] := c.F_fits_mark.bindsN fun _ _ _ _ _ _ us hl => match us, hl with | [_, _], _ => rfl
theorem ok_fits_mark {P : Program} {w : World} {base : Heap} {K : PySem.W.Frag} {mg : Str → Option Value} (c : Facts w K mg) : FnOk P w K mg base (L2.CX P w) 2 c.f_fits_mark c.fd_fits_mark ["marks", "i"] (spF K mg 2 f_fits_mark) :=
  fn_ok (N := ["marks", "i", "mark"]) (n := 1) c.F_fits_mark sc_fits_mark rfl fun cdv A outer s H E hr =>
  (jss_cons (js_set (ps_set (i := 2) sc_fits_mark.nd rfl (.inl rfl) (j_ix (j_var (i := 0) rfl (.inl rfl) rfl rfl) (j_var (i := 1) rfl (.inl rfl) rfl rfl) (fun _ _ => rfl))) (fun _ _ _ h => h))
  (jss_cons (js_if (jb_val (j_isi kit_str (by rfl) c.b_isinstance (by rfl) c.b_str (by decide +kernel) (j_var (i := 2) rfl (.inl rfl) rfl rfl) (by decide) (by rfl) (by rfl) (by rfl) (by rfl)) (fun _ => rfl)) (jss_one (js_ret (j_cmp (op_inX (hu65 hr)) in_ok (by with_unfolding_all rfl) (j_var (i := 2) rfl (.inl rfl) rfl rfl) (j_tup (js_cons j_str (js_cons j_str js_nil (by rfl)) (by rfl)))))) jss_nil)
  (jss_cons (js_if (jw_or (jb_not (jb_val (j_call ((ok_is_whole c).mono (by decide)) hr (takes_of (by rfl) (by rfl) (by rfl) (by rfl)) (by rfl) c.g_is_whole c.F_is_whole.kp (bi_is_whole c) (js_cons (j_var (i := 2) rfl (.inl rfl) rfl rfl) js_nil (by rfl)) (lenC lenN) (by rfl) (by rfl) (by rfl)) (fun _ => rfl))) (jw_or (jb_not (jb_chain op_le op_lt j_int (j_var (i := 2) rfl (.inl rfl) rfl rfl) (j_callB call_len len_ok (by rfl) c.b_len (by decide +kernel) (js_cons (j_var (i := 0) rfl (.inl rfl) rfl rfl) js_nil (by rfl)) (by decide) (by rfl) (by rfl) (by rfl)) (by with_unfolding_all rfl))) (jw_or1 (jb_cmp (op_eqX (hu64 hr)) eq_ok (nomark _) (j_var (i := 2) rfl (.inl rfl) rfl rfl) (j_var (i := 1) rfl (.inl rfl) rfl rfl))))).pt (jss_one (js_ret j_bl)) jss_nil)
  (jss_one (js_ret (j_and (j_call ((ok_is_whole c).mono (by decide)) hr (takes_of (by rfl) (by rfl) (by rfl) (by rfl)) (by rfl) c.g_is_whole c.F_is_whole.kp (bi_is_whole c) (js_cons (j_ix (j_var (i := 0) rfl (.inl rfl) rfl rfl) (j_var (i := 2) rfl (.inl rfl) rfl rfl) (fun _ _ => rfl)) js_nil (by rfl)) (lenC lenN) (by rfl) (by rfl) (by rfl)) (j_one (j_cmp (op_eqX (hu64 hr)) eq_ok (nomark _) (j_ix (j_var (i := 0) rfl (.inl rfl) rfl rfl) (j_var (i := 2) rfl (.inl rfl) rfl rfl) (fun _ _ => rfl)) (j_var (i := 1) rfl (.inl rfl) rfl rfl)))))))))
theorem bi_many_places {w : World} {K : PySem.W.Frag} {mg : Str → Option Value} (c : Facts w K mg) : Binds K c.fd_many_places ["fan"] [] := c.F_many_places.bindsN fun _ _ _ _ _ _ us hl => match us, hl with | [_], _ => rfl
theorem ok_many_places {P : Program} {w : World} {base : Heap} {K : PySem.W.Frag} {mg : Str → Option Value} (c : Facts w K mg) : FnOk P w K mg base (L2.CX P w) 1 c.f_many_places c.fd_many_places ["fan"] (spF K mg 1 f_many_places) :=
  fn_ok (N := ["fan", "fractions", "marks", "mark"]) (n := 3) c.F_many_places sc_many_places rfl fun cdv A outer s H E hr =>
  (jss_cons (js_asg (j_var (i := 0) rfl (.inl rfl) rfl rfl) (pg_seq rfl (pgs_cons (pg_name (i := 1) sc_many_places.nd rfl (.inl rfl)) (pgs_cons (pg_name (i := 2) sc_many_places.nd rfl (.inl rfl)) pgs_nil)) rfl rfl) (g_seq (gs_cons (g_name) (gs_cons (g_name) gs_nil))) rfl rfl rfl)
  (jss_one (js_ret (j_op op_addD add_ok (j_op op_mulW mulI_ok j_int (j_op op_sub sub_ok (j_callB call_len len_ok (by rfl) c.b_len (by decide +kernel) (js_cons (j_var (i := 1) rfl (.inl rfl) rfl rfl) js_nil (by rfl)) (by decide) (by rfl) (by rfl) (by rfl)) j_int)) (j_callB call_len len_ok (by rfl) c.b_len (by decide +kernel) (js_cons (j_lc (own := [("mark", 3)]) rfl sc_many_places.nd (ji_any (j_var (i := 2) rfl (.inl rfl) rfl rfl)) (blkOk_by (N := ["fan", "fractions", "marks", "mark"]) (sc := (defScope s_many_places)) (by decide +kernel)) (gp_name (by decide)) (fun _ _ _ _ _ => (pg_name (i := 3) sc_many_places.nd rfl (.inl rfl))) (fun _ _ _ _ _ => (jts_one (jb_cmp (op_eqX (hu64 hr)) eq_ok (nomark _) (j_var (i := 3) rfl (.inl rfl) rfl rfl) j_str))) (fun _ _ _ _ _ => (j_var (i := 3) rfl (.inl rfl) rfl rfl)) (fun _ => rfl)) js_nil (by rfl)) (by decide) (by rfl) (by rfl) (by rfl))))))
theorem bi_look {w : World} {K : PySem.W.Frag} {mg : Str → Option Value} (c : Facts w K mg) : Binds K c.fd_look ["thing"] [] := c.F_look.bindsN fun _ _ _ _ _ _ us hl => match us, hl with | [_], _ => rfl
theorem ok_look {P : Program} {w : World} {base : Heap} {K : PySem.W.Frag} {mg : Str → Option Value} (c : Facts w K mg) : FnOk P w K mg base (L2.CX P w) 5 c.f_look c.fd_look ["thing"] (spF K mg 1 f_look) :=
  fn_ok (N := ["thing", "i", "fractions", "marks", "part"]) (n := 4) c.F_look sc_look rfl fun cdv A outer s H E hr =>
  (jss_cons (js_if (jw_or (jb_not (jb_val (j_isi kit_tup (by rfl) c.b_isinstance (by rfl) c.b_tuple (by decide +kernel) (j_var (i := 0) rfl (.inl rfl) rfl rfl) (by decide) (by rfl) (by rfl) (by rfl) (by rfl)) (fun _ => rfl))) (jw_or (jb_cmp (op_neX (hu64 hr)) ne_ok (nomark _) (j_callB call_len len_ok (by rfl) c.b_len (by decide +kernel) (js_cons (j_var (i := 0) rfl (.inl rfl) rfl rfl) js_nil (by rfl)) (by decide) (by rfl) (by rfl) (by rfl)) j_int) (jw_or1 (jb_not (jb_val (j_callB (cr_all rfl) all_ok (by rfl) c.b_all (by decide +kernel) (js_cons (j_lc (own := [("part", 4)]) rfl sc_look.nd (ji_any (j_var (i := 0) rfl (.inl rfl) rfl rfl)) (blkOk_by (N := ["thing", "i", "fractions", "marks", "part"]) (sc := (defScope s_look)) (by decide +kernel)) (gp_name (by decide)) (fun _ _ _ _ _ => (pg_name (i := 4) sc_look.nd rfl (.inl rfl))) (fun _ _ _ _ _ => jts_nil) (fun _ _ _ _ _ => (j_isi kit_tup (by rfl) c.b_isinstance (by rfl) c.b_tuple (by decide +kernel) (j_var (i := 4) rfl (.inl rfl) rfl rfl) (by decide) (by rfl) (by rfl) (by rfl) (by rfl))) (fun _ => rfl)) js_nil (by rfl)) (by decide) (by rfl) (by rfl) (by rfl)) (fun _ => rfl)))))).pt (jss_one (js_raiseF rfl (takes_of (by rfl) (by rfl) (by rfl) (by rfl)) c.r_NoFan ((ok_iNoFan c).mono (by decide)) hr (bi_iNoFan c) (by rfl) (by rfl) (js_cons j_str (js_cons j_int js_nil (by rfl)) (by rfl)) (by rfl) (by rfl))) jss_nil)
  (jss_cons (js_asg (j_var (i := 0) rfl (.inl rfl) rfl rfl) (pg_seq rfl (pgs_cons (pg_name (i := 2) sc_look.nd rfl (.inl rfl)) (pgs_cons (pg_name (i := 3) sc_look.nd rfl (.inl rfl)) pgs_nil)) rfl rfl) (g_seq (gs_cons (g_name) (gs_cons (g_name) gs_nil))) rfl rfl rfl)
  (jss_cons (js_expr (j_call ((ok_look_at_fractions c).mono (by decide)) hr (takes_of (by rfl) (by rfl) (by rfl) (by rfl)) (by rfl) c.g_look_at_fractions c.F_look_at_fractions.kp (bi_look_at_fractions c) (js_cons (j_var (i := 2) rfl (.inl rfl) rfl rfl) js_nil (by rfl)) (lenC lenN) (by rfl) (by rfl) (by rfl)) rfl)
  (jss_cons (js_if (jb_cmp (op_neX (hu64 hr)) ne_ok (nomark _) (j_callB call_len len_ok (by rfl) c.b_len (by decide +kernel) (js_cons (j_var (i := 3) rfl (.inl rfl) rfl rfl) js_nil (by rfl)) (by decide) (by rfl) (by rfl) (by rfl)) (j_callB call_len len_ok (by rfl) c.b_len (by decide +kernel) (js_cons (j_var (i := 2) rfl (.inl rfl) rfl rfl) js_nil (by rfl)) (by decide) (by rfl) (by rfl) (by rfl))) (jss_one (js_raiseF rfl (takes_of (by rfl) (by rfl) (by rfl) (by rfl)) c.r_NoFan ((ok_iNoFan c).mono (by decide)) hr (bi_iNoFan c) (by rfl) (by rfl) (js_cons j_str (js_cons j_int js_nil (by rfl)) (by rfl)) (by rfl) (by rfl))) jss_nil)
  (jss_cons (js_for (passes_of rfl) rfl (ji_range1 (by rfl) c.b_range (js_cons (j_callB call_len len_ok (by rfl) c.b_len (by decide +kernel) (js_cons (j_var (i := 3) rfl (.inl rfl) rfl rfl) js_nil (by rfl)) (by decide) (by rfl) (by rfl) (by rfl)) js_nil (by rfl)) (by rfl)) (pg_name (i := 1) sc_look.nd rfl (.inl rfl)) (g_name) (jss_one (js_if (jb_not (jb_val (j_call ((ok_fits_mark c).mono (by decide)) hr (takes_of (by rfl) (by rfl) (by rfl) (by rfl)) (by rfl) c.g_fits_mark c.F_fits_mark.kp (bi_fits_mark c) (js_cons (j_var (i := 3) rfl (.inl rfl) rfl rfl) (js_cons (j_var (i := 1) rfl (.inl rfl) rfl rfl) js_nil (by rfl)) (by rfl)) (lenC (lenC lenN)) (by rfl) (by rfl) (by rfl)) (fun _ => rfl))) (jss_one (js_raiseF rfl (takes_of (by rfl) (by rfl) (by rfl) (by rfl)) c.r_NoFan ((ok_iNoFan c).mono (by decide)) hr (bi_iNoFan c) (by rfl) (by rfl) (js_cons j_str (js_cons (j_var (i := 1) rfl (.inl rfl) rfl rfl) js_nil (by rfl)) (by rfl)) (by rfl) (by rfl))) jss_nil)) (fun _ => rfl))
  (jss_one (js_if (jb_not (jb_chain op_le op_le j_int (j_call ((ok_many_places c).mono (by decide)) hr (takes_of (by rfl) (by rfl) (by rfl) (by rfl)) (by rfl) c.g_many_places c.F_many_places.kp (bi_many_places c) (js_cons (j_var (i := 0) rfl (.inl rfl) rfl rfl) js_nil (by rfl)) (lenC lenN) (by rfl) (by rfl) (by rfl)) (j_glob (by rfl) c.c_MOST_PLACES (by rfl)) (by with_unfolding_all rfl))) (jss_one (js_raiseF rfl (takes_of (by rfl) (by rfl) (by rfl) (by rfl)) c.r_NoFan ((ok_iNoFan c).mono (by decide)) hr (bi_iNoFan c) (by rfl) (by rfl) (js_cons j_str (js_cons j_int js_nil (by rfl)) (by rfl)) (by rfl) (by rfl))) jss_nil)))))))
theorem bi_is_fan {w : World} {K : PySem.W.Frag} {mg : Str → Option Value} (c : Facts w K mg) : Binds K c.fd_is_fan ["thing"] [] := c.F_is_fan.bindsN fun _ _ _ _ _ _ us hl => match us, hl with | [_], _ => rfl
theorem ok_is_fan {P : Program} {w : World} {base : Heap} {K : PySem.W.Frag} {mg : Str → Option Value} (c : Facts w K mg) : FnOk P w K mg base (L2.CX P w) 6 c.f_is_fan c.fd_is_fan ["thing"] (spF K mg 1 f_is_fan) :=
  fn_ok (N := ["thing"]) (n := 0) c.F_is_fan sc_is_fan rfl fun cdv A outer s H E hr =>
  (jss_cons (js_tryO rfl rfl (by rfl) (by rfl) c.m_NoFan (takes_of (by rfl) (by rfl) (by rfl) (by rfl)) (.cons c.e_NoFan_NoFan c.m_NoFan (.cons c.e_NoPaper_NoFan c.m_NoPaper (.cons c.e_NoTurning_NoFan c.m_NoTurning (.cons c.e_TooLong_NoFan c.m_TooLong .nil)))) (fun W1 pn1 xe1 tk1 po1 => (jss_one (js_expr (j_call ((ok_look c).mono (by decide)) hr tk1 (by rfl) c.g_look c.F_look.kp (bi_look c) (js_cons (j_var (i := 0) rfl (.inl rfl) rfl rfl) js_nil (by rfl)) (lenC lenN) (by rfl) (by rfl) (by rfl)) rfl))) (fun a oe pn => (jss_one (js_ret j_bl))))
  (jss_one (js_ret j_bl)))
theorem bi_is_turning {w : World} {K : PySem.W.Frag} {mg : Str → Option Value} (c : Facts w K mg) : Binds K c.fd_is_turning ["thing"] [] := c.F_is_turning.bindsN fun _ _ _ _ _ _ us hl => match us, hl with | [_], _ => rfl
theorem ok_is_turning {P : Program} {w : World} {base : Heap} {K : PySem.W.Frag} {mg : Str → Option Value} (c : Facts w K mg) : FnOk P w K mg base (L2.CX P w) 2 c.f_is_turning c.fd_is_turning ["thing"] (spF K mg 1 f_is_turning) :=
  fn_ok (N := ["thing", "a", "b", "c", "d", "number"]) (n := 5) c.F_is_turning sc_is_turning rfl fun cdv A outer s H E hr =>
  (jss_cons (js_if (jw_or (jb_not (jb_val (j_isi kit_tup (by rfl) c.b_isinstance (by rfl) c.b_tuple (by decide +kernel) (j_var (i := 0) rfl (.inl rfl) rfl rfl) (by decide) (by rfl) (by rfl) (by rfl) (by rfl)) (fun _ => rfl))) (jw_or (jb_cmp (op_neX (hu64 hr)) ne_ok (nomark _) (j_callB call_len len_ok (by rfl) c.b_len (by decide +kernel) (js_cons (j_var (i := 0) rfl (.inl rfl) rfl rfl) js_nil (by rfl)) (by decide) (by rfl) (by rfl) (by rfl)) j_int) (jw_or1 (jb_not (jb_val (j_callB (cr_all rfl) all_ok (by rfl) c.b_all (by decide +kernel) (js_cons (j_lc (own := [("number", 5)]) rfl sc_is_turning.nd (ji_any (j_var (i := 0) rfl (.inl rfl) rfl rfl)) (blkOk_by (N := ["thing", "a", "b", "c", "d", "number"]) (sc := (defScope s_is_turning)) (by decide +kernel)) (gp_name (by decide)) (fun _ _ _ _ _ => (pg_name (i := 5) sc_is_turning.nd rfl (.inl rfl))) (fun _ _ _ _ _ => jts_nil) (fun _ _ _ _ _ => (j_call ((ok_is_whole c).mono (by decide)) hr takes0 (by rfl) c.g_is_whole c.F_is_whole.kp (bi_is_whole c) (js_cons (j_var (i := 5) rfl (.inl rfl) rfl rfl) js_nil (by rfl)) (lenC lenN) (by rfl) (by rfl) (by rfl))) (fun _ => rfl)) js_nil (by rfl)) (by decide) (by rfl) (by rfl) (by rfl)) (fun _ => rfl)))))).pt (jss_one (js_ret j_bl)) jss_nil)
  (jss_cons (js_asg (j_var (i := 0) rfl (.inl rfl) rfl rfl) (pg_seq rfl (pgs_cons (pg_name (i := 1) sc_is_turning.nd rfl (.inl rfl)) (pgs_cons (pg_name (i := 2) sc_is_turning.nd rfl (.inl rfl)) (pgs_cons (pg_name (i := 3) sc_is_turning.nd rfl (.inl rfl)) (pgs_cons (pg_name (i := 4) sc_is_turning.nd rfl (.inl rfl)) pgs_nil)))) rfl rfl) (g_seq (gs_cons (g_name) (gs_cons (g_name) (gs_cons (g_name) (gs_cons (g_name) gs_nil))))) rfl rfl rfl)
  (jss_one (js_ret (j_and (j_cmp (op_eqX (hu64 hr)) eq_ok (nomark _) (j_op op_sub sub_ok (j_op op_mulW mulI_ok (j_var (i := 1) rfl (.inl rfl) rfl rfl) (j_var (i := 4) rfl (.inl rfl) rfl rfl)) (j_op op_mulW mulI_ok (j_var (i := 2) rfl (.inl rfl) rfl rfl) (j_var (i := 3) rfl (.inl rfl) rfl rfl))) j_int) (j_one (j_or (j_cmp op_gt cmpI_ok (nomark _) (j_var (i := 3) rfl (.inl rfl) rfl rfl) j_int) (j_one (j_and (j_cmp (op_eqX (hu64 hr)) eq_ok (nomark _) (j_var (i := 3) rfl (.inl rfl) rfl rfl) j_int) (j_one (j_cmp (op_eqX (hu64 hr)) eq_ok (nomark _) (j_var (i := 4) rfl (.inl rfl) rfl rfl) j_int)))))))))))
theorem bi_own_power {w : World} {K : PySem.W.Frag} {mg : Str → Option Value} (c : Facts w K mg) : Binds K c.fd_own_power ["fan", "gap", "power"] [] := c.F_own_power.bindsN fun _ _ _ _ _ _ us hl => match us, hl with | [_, _, _], _ => rfl
theorem ok_own_power {P : Program} {w : World} {base : Heap} {K : PySem.W.Frag} {mg : Str → Option Value} (c : Facts w K mg) : FnOk P w K mg base (L2.CX P w) 1 c.f_own_power c.fd_own_power ["fan", "gap", "power"] (spF K mg 3 f_own_power) :=
  fn_ok (N := ["fan", "gap", "power", "mark"]) (n := 1) c.F_own_power sc_own_power rfl fun cdv A outer s H E hr =>
  (jss_cons (js_set (ps_set (i := 3) sc_own_power.nd rfl (.inl rfl) (j_ix (j_ix (j_var (i := 0) rfl (.inl rfl) rfl rfl) j_int (fun _ _ => rfl)) (j_var (i := 1) rfl (.inl rfl) rfl rfl) (fun _ _ => rfl))) (fun _ _ _ h => h))
  (jss_cons (js_if (jb_cmp (op_eqX (hu64 hr)) eq_ok (nomark _) (j_var (i := 3) rfl (.inl rfl) rfl rfl) j_str) (jss_one (js_ret (j_tup (js_cons (j_var (i := 1) rfl (.inl rfl) rfl rfl) (js_cons (j_op op_modN mod_ok (j_var (i := 2) rfl (.inl rfl) rfl rfl) j_int) js_nil (by rfl)) (by rfl))))) jss_nil)
  (jss_cons (js_if (jb_cmp (op_eqX (hu64 hr)) eq_ok (nomark _) (j_var (i := 3) rfl (.inl rfl) rfl rfl) j_str) (jss_one (js_ret (j_tup (js_cons (j_var (i := 1) rfl (.inl rfl) rfl rfl) (js_cons (j_op op_modN mod_ok (j_var (i := 2) rfl (.inl rfl) rfl rfl) j_int) js_nil (by rfl)) (by rfl))))) jss_nil)
  (jss_cons (js_if (jb_cmp op_lt cmpI_ok (nomark _) (j_var (i := 3) rfl (.inl rfl) rfl rfl) (j_var (i := 1) rfl (.inl rfl) rfl rfl)) (jss_one (js_ret (j_tup (js_cons (j_var (i := 3) rfl (.inl rfl) rfl rfl) (js_cons (j_op op_sub sub_ok j_int (j_var (i := 2) rfl (.inl rfl) rfl rfl)) js_nil (by rfl)) (by rfl))))) jss_nil)
  (jss_one (js_ret (j_tup (js_cons (j_var (i := 1) rfl (.inl rfl) rfl rfl) (js_cons (j_var (i := 2) rfl (.inl rfl) rfl rfl) js_nil (by rfl)) (by rfl)))))))))
theorem bi_is_short_row {w : World} {K : PySem.W.Frag} {mg : Str → Option Value} (c : Facts w K mg) : Binds K c.fd_is_short_row ["fan", "glues"] [] := c.F_is_short_row.bindsN fun _ _ _ _ _ _ us hl => match us, hl with | [_, _], _ => rfl
theorem ok_is_short_row {P : Program} {w : World} {base : Heap} {K : PySem.W.Frag} {mg : Str → Option Value} (c : Facts w K mg) : FnOk P w K mg base (L2.CX P w) 2 c.f_is_short_row c.fd_is_short_row ["fan", "glues"] (spF K mg 2 f_is_short_row) :=
  fn_ok (N := ["fan", "glues", "one", "other", "gap", "power"]) (n := 4) c.F_is_short_row sc_is_short_row rfl fun cdv A outer s H E hr =>
  (jss_cons (js_if (jb_val (j_callB (cr_any rfl) any_ok (by rfl) c.b_any (by decide +kernel) (js_cons (j_lc (own := [("one", 2), ("other", 3)]) rfl sc_is_short_row.nd (ji_zip (by rfl) c.b_zip (js_cons (j_var (i := 1) rfl (.inl rfl) rfl rfl) (js_cons (j_slice (j_var (i := 1) rfl (.inl rfl) rfl rfl) (jo_some j_int) jo_none) js_nil (by rfl)) (by rfl)) (by rfl) (by rfl)) (blkOk_by (N := ["fan", "glues", "one", "other", "gap", "power"]) (sc := (defScope s_is_short_row)) (by decide +kernel)) (gp_seq (gps_cons (gp_name (by decide)) (gps_cons (gp_name (by decide)) gps_nil))) (fun _ _ _ _ _ => (pg_seq rfl (pgs_cons (pg_name (i := 2) sc_is_short_row.nd rfl (.inl rfl)) (pgs_cons (pg_name (i := 3) sc_is_short_row.nd rfl (.inl rfl)) pgs_nil)) rfl rfl)) (fun _ _ _ _ _ => jts_nil) (fun _ _ _ _ _ => (j_cmp (op_eqX (hu64 hr)) eq_ok (nomark _) (j_ix (j_var (i := 2) rfl (.inl rfl) rfl rfl) j_int (fun _ _ => rfl)) (j_ix (j_var (i := 3) rfl (.inl rfl) rfl rfl) j_int (fun _ _ => rfl)))) (fun _ => rfl)) js_nil (by rfl)) (by decide) (by rfl) (by rfl) (by rfl)) (fun _ => rfl)) (jss_one (js_ret j_bl)) jss_nil)
  (jss_one (js_ret (j_callB (cr_all rfl) all_ok (by rfl) c.b_all (by decide +kernel) (js_cons (j_lc (own := [("gap", 4), ("power", 5)]) rfl sc_is_short_row.nd (ji_any (j_var (i := 1) rfl (.inl rfl) rfl rfl)) (blkOk_by (N := ["fan", "glues", "one", "other", "gap", "power"]) (sc := (defScope s_is_short_row)) (by decide +kernel)) (gp_seq (gps_cons (gp_name (by decide)) (gps_cons (gp_name (by decide)) gps_nil))) (fun _ _ _ _ _ => (pg_seq rfl (pgs_cons (pg_name (i := 4) sc_is_short_row.nd rfl (.inl rfl)) (pgs_cons (pg_name (i := 5) sc_is_short_row.nd rfl (.inl rfl)) pgs_nil)) rfl rfl)) (fun _ _ _ _ _ => jts_nil) (fun _ _ _ _ _ => (j_and (j_cmp (op_neX (hu64 hr)) ne_ok (nomark _) (j_var (i := 5) rfl (.inl rfl) rfl rfl) j_int) (j_one (j_cmp (op_eqX (hu64 hr)) eq_ok (nomark _) (j_call ((ok_own_power c).mono (by decide)) hr takes0 (by rfl) c.g_own_power c.F_own_power.kp (bi_own_power c) (js_cons (j_var (i := 0) rfl (by first | exact Or.inr (Or.inl rfl) | exact Or.inr (Or.inr rfl) | exact Or.inl rfl) rfl rfl) (js_cons (j_var (i := 4) rfl (.inl rfl) rfl rfl) (js_cons (j_var (i := 5) rfl (.inl rfl) rfl rfl) js_nil (by rfl)) (by rfl)) (by rfl)) (lenC (lenC (lenC lenN))) (by rfl) (by rfl) (by rfl)) (j_tup (js_cons (j_var (i := 4) rfl (.inl rfl) rfl rfl) (js_cons (j_var (i := 5) rfl (.inl rfl) rfl rfl) js_nil (by rfl)) (by rfl))))))) (fun _ => rfl)) js_nil (by rfl)) (by decide) (by rfl) (by rfl) (by rfl)))))
theorem bi_is_glue {w : World} {K : PySem.W.Frag} {mg : Str → Option Value} (c : Facts w K mg) : Binds K c.fd_is_glue ["fan", "thing"] [] := c.F_is_glue.bindsN fun _ _ _ _ _ _ us hl => match us, hl with | [_, _], _ => rfl
theorem ok_is_glue {P : Program} {w : World} {base : Heap} {K : PySem.W.Frag} {mg : Str → Option Value} (c : Facts w K mg) : FnOk P w K mg base (L2.CX P w) 2 c.f_is_glue c.fd_is_glue ["fan", "thing"] (spF K mg 2 f_is_glue) :=
  fn_ok (N := ["fan", "thing", "number"]) (n := 1) c.F_is_glue sc_is_glue rfl fun cdv A outer s H E hr =>
  (jss_cons (js_if (jw_or (jb_not (jb_val (j_isi kit_tup (by rfl) c.b_isinstance (by rfl) c.b_tuple (by decide +kernel) (j_var (i := 1) rfl (.inl rfl) rfl rfl) (by decide) (by rfl) (by rfl) (by rfl) (by rfl)) (fun _ => rfl))) (jw_or (jb_cmp (op_neX (hu64 hr)) ne_ok (nomark _) (j_callB call_len len_ok (by rfl) c.b_len (by decide +kernel) (js_cons (j_var (i := 1) rfl (.inl rfl) rfl rfl) js_nil (by rfl)) (by decide) (by rfl) (by rfl) (by rfl)) j_int) (jw_or1 (jb_not (jb_val (j_callB (cr_all rfl) all_ok (by rfl) c.b_all (by decide +kernel) (js_cons (j_lc (own := [("number", 2)]) rfl sc_is_glue.nd (ji_any (j_var (i := 1) rfl (.inl rfl) rfl rfl)) (blkOk_by (N := ["fan", "thing", "number"]) (sc := (defScope s_is_glue)) (by decide +kernel)) (gp_name (by decide)) (fun _ _ _ _ _ => (pg_name (i := 2) sc_is_glue.nd rfl (.inl rfl))) (fun _ _ _ _ _ => jts_nil) (fun _ _ _ _ _ => (j_call ((ok_is_whole c).mono (by decide)) hr takes0 (by rfl) c.g_is_whole c.F_is_whole.kp (bi_is_whole c) (js_cons (j_var (i := 2) rfl (.inl rfl) rfl rfl) js_nil (by rfl)) (lenC lenN) (by rfl) (by rfl) (by rfl))) (fun _ => rfl)) js_nil (by rfl)) (by decide) (by rfl) (by rfl) (by rfl)) (fun _ => rfl)))))).pt (jss_one (js_ret j_bl)) jss_nil)
  (jss_one (js_ret (j_and (j_chain op_le op_lt j_int (j_ix (j_var (i := 1) rfl (.inl rfl) rfl rfl) j_int (fun _ _ => rfl)) (j_callB call_len len_ok (by rfl) c.b_len (by decide +kernel) (js_cons (j_ix (j_var (i := 0) rfl (.inl rfl) rfl rfl) j_int (fun _ _ => rfl)) js_nil (by rfl)) (by decide) (by rfl) (by rfl) (by rfl)) (by with_unfolding_all rfl)) (j_one (j_chain op_le op_le (j_un un_neg neg_ok (j_glob (by rfl) c.c_MOST_POWER (by rfl))) (j_ix (j_var (i := 1) rfl (.inl rfl) rfl rfl) j_int (fun _ _ => rfl)) (j_glob (by rfl) c.c_MOST_POWER (by rfl)) (by with_unfolding_all rfl)))))))
theorem bi_are_glues {w : World} {K : PySem.W.Frag} {mg : Str → Option Value} (c : Facts w K mg) : Binds K c.fd_are_glues ["fan", "thing"] [] := c.F_are_glues.bindsN fun _ _ _ _ _ _ us hl => match us, hl with | [_, _], _ => rfl
theorem ok_are_glues {P : Program} {w : World} {base : Heap} {K : PySem.W.Frag} {mg : Str → Option Value} (c : Facts w K mg) : FnOk P w K mg base (L2.CX P w) 3 c.f_are_glues c.fd_are_glues ["fan", "thing"] (spF K mg 2 f_are_glues) :=
  fn_ok (N := ["fan", "thing", "one"]) (n := 1) c.F_are_glues sc_are_glues rfl fun cdv A outer s H E hr =>
  (jss_cons (js_if (jw_or (jb_not (jb_val (j_isi kit_tup (by rfl) c.b_isinstance (by rfl) c.b_tuple (by decide +kernel) (j_var (i := 1) rfl (.inl rfl) rfl rfl) (by decide) (by rfl) (by rfl) (by rfl) (by rfl)) (fun _ => rfl))) (jw_or (jb_cmp op_gt cmpI_ok (nomark _) (j_callB call_len len_ok (by rfl) c.b_len (by decide +kernel) (js_cons (j_var (i := 1) rfl (.inl rfl) rfl rfl) js_nil (by rfl)) (by decide) (by rfl) (by rfl) (by rfl)) (j_glob (by rfl) c.c_MOST_TUPLES (by rfl))) (jw_or1 (jb_not (jb_val (j_callB (cr_all rfl) all_ok (by rfl) c.b_all (by decide +kernel) (js_cons (j_lc (own := [("one", 2)]) rfl sc_are_glues.nd (ji_any (j_var (i := 1) rfl (.inl rfl) rfl rfl)) (blkOk_by (N := ["fan", "thing", "one"]) (sc := (defScope s_are_glues)) (by decide +kernel)) (gp_name (by decide)) (fun _ _ _ _ _ => (pg_name (i := 2) sc_are_glues.nd rfl (.inl rfl))) (fun _ _ _ _ _ => jts_nil) (fun _ _ _ _ _ => (j_call ((ok_is_glue c).mono (by decide)) hr takes0 (by rfl) c.g_is_glue c.F_is_glue.kp (bi_is_glue c) (js_cons (j_var (i := 0) rfl (by first | exact Or.inr (Or.inl rfl) | exact Or.inr (Or.inr rfl) | exact Or.inl rfl) rfl rfl) (js_cons (j_var (i := 2) rfl (.inl rfl) rfl rfl) js_nil (by rfl)) (by rfl)) (lenC (lenC lenN)) (by rfl) (by rfl) (by rfl))) (fun _ => rfl)) js_nil (by rfl)) (by decide) (by rfl) (by rfl) (by rfl)) (fun _ => rfl)))))).pt (jss_one (js_ret j_bl)) jss_nil)
  (jss_one (js_ret (j_call ((ok_is_short_row c).mono (by decide)) hr (takes_of (by rfl) (by rfl) (by rfl) (by rfl)) (by rfl) c.g_is_short_row c.F_is_short_row.kp (bi_is_short_row c) (js_cons (j_var (i := 0) rfl (.inr (.inl rfl)) rfl rfl) (js_cons (j_var (i := 1) rfl (.inl rfl) rfl rfl) js_nil (by rfl)) (by rfl)) (lenC (lenC lenN)) (by rfl) (by rfl) (by rfl)))))
theorem bi_turning {w : World} {K : PySem.W.Frag} {mg : Str → Option Value} (c : Facts w K mg) : Binds K c.fd_turning ["a", "b", "c", "d"] [] := c.F_turning.bindsN fun _ _ _ _ _ _ us hl => match us, hl with | [_, _, _, _], _ => rfl
theorem ok_turning {P : Program} {w : World} {base : Heap} {K : PySem.W.Frag} {mg : Str → Option Value} (c : Facts w K mg) : FnOk P w K mg base (L2.CX P w) 1 c.f_turning c.fd_turning ["a", "b", "c", "d"] (spF K mg 4 f_turning) :=
  fn_ok (N := ["a", "b", "c", "d"]) (n := 0) c.F_turning sc_turning rfl fun cdv A outer s H E hr =>
  (jss_cons (js_if (jb_cmp (op_neX (hu64 hr)) ne_ok (nomark _) (j_op op_sub sub_ok (j_op op_mulW mulI_ok (j_var (i := 0) rfl (.inl rfl) rfl rfl) (j_var (i := 3) rfl (.inl rfl) rfl rfl)) (j_op op_mulW mulI_ok (j_var (i := 1) rfl (.inl rfl) rfl rfl) (j_var (i := 2) rfl (.inl rfl) rfl rfl))) j_int) (jss_one (js_raise rfl (takes_of (by rfl) (by rfl) (by rfl) (by rfl)) c.r_NoTurning (by rfl) (by rfl))) jss_nil)
  (jss_cons (js_if (jw_or (jb_cmp op_lt cmpI_ok (nomark _) (j_var (i := 2) rfl (.inl rfl) rfl rfl) j_int) (jw_or1 (jw_and (jb_cmp (op_eqX (hu64 hr)) eq_ok (nomark _) (j_var (i := 2) rfl (.inl rfl) rfl rfl) j_int) (jw_and1 (jb_cmp op_lt cmpI_ok (nomark _) (j_var (i := 3) rfl (.inl rfl) rfl rfl) j_int))).pt)).pt (jss_one (js_ret (j_tup (js_cons (j_op op_sub sub_ok j_int (j_var (i := 0) rfl (.inl rfl) rfl rfl)) (js_cons (j_op op_sub sub_ok j_int (j_var (i := 1) rfl (.inl rfl) rfl rfl)) (js_cons (j_op op_sub sub_ok j_int (j_var (i := 2) rfl (.inl rfl) rfl rfl)) (js_cons (j_op op_sub sub_ok j_int (j_var (i := 3) rfl (.inl rfl) rfl rfl)) js_nil (by rfl)) (by rfl)) (by rfl)) (by rfl))))) jss_nil)
  (jss_one (js_ret (j_tup (js_cons (j_var (i := 0) rfl (.inl rfl) rfl rfl) (js_cons (j_var (i := 1) rfl (.inl rfl) rfl rfl) (js_cons (j_var (i := 2) rfl (.inl rfl) rfl rfl) (js_cons (j_var (i := 3) rfl (.inl rfl) rfl rfl) js_nil (by rfl)) (by rfl)) (by rfl)) (by rfl)))))))
theorem bi_times {w : World} {K : PySem.W.Frag} {mg : Str → Option Value} (c : Facts w K mg) : Binds K c.fd_times ["one", "other"] [] := c.F_times.bindsN fun _ _ _ _ _ _ us hl => match us, hl with | [_, _], _ => rfl
theorem ok_times {P : Program} {w : World} {base : Heap} {K : PySem.W.Frag} {mg : Str → Option Value} (c : Facts w K mg) : FnOk P w K mg base (L2.CX P w) 2 c.f_times c.fd_times ["one", "other"] (spF K mg 2 f_times) :=
  fn_ok (N := ["one", "other", "a", "b", "c", "d", "e", "f", "g", "h"]) (n := 8) c.F_times sc_times rfl fun cdv A outer s H E hr =>
  (jss_cons (js_asg (j_var (i := 0) rfl (.inl rfl) rfl rfl) (pg_seq rfl (pgs_cons (pg_name (i := 2) sc_times.nd rfl (.inl rfl)) (pgs_cons (pg_name (i := 3) sc_times.nd rfl (.inl rfl)) (pgs_cons (pg_name (i := 4) sc_times.nd rfl (.inl rfl)) (pgs_cons (pg_name (i := 5) sc_times.nd rfl (.inl rfl)) pgs_nil)))) rfl rfl) (g_seq (gs_cons (g_name) (gs_cons (g_name) (gs_cons (g_name) (gs_cons (g_name) gs_nil))))) rfl rfl rfl)
  (jss_cons (js_asg (j_var (i := 1) rfl (.inl rfl) rfl rfl) (pg_seq rfl (pgs_cons (pg_name (i := 6) sc_times.nd rfl (.inl rfl)) (pgs_cons (pg_name (i := 7) sc_times.nd rfl (.inl rfl)) (pgs_cons (pg_name (i := 8) sc_times.nd rfl (.inl rfl)) (pgs_cons (pg_name (i := 9) sc_times.nd rfl (.inl rfl)) pgs_nil)))) rfl rfl) (g_seq (gs_cons (g_name) (gs_cons (g_name) (gs_cons (g_name) (gs_cons (g_name) gs_nil))))) rfl rfl rfl)
  (jss_one (js_ret (j_call ((ok_turning c).mono (by decide)) hr (takes_of (by rfl) (by rfl) (by rfl) (by rfl)) (by rfl) c.g_turning c.F_turning.kp (bi_turning c) (js_cons (j_op op_addD add_ok (j_op op_mulW mulI_ok (j_var (i := 2) rfl (.inl rfl) rfl rfl) (j_var (i := 6) rfl (.inl rfl) rfl rfl)) (j_op op_mulW mulI_ok (j_var (i := 3) rfl (.inl rfl) rfl rfl) (j_var (i := 8) rfl (.inl rfl) rfl rfl))) (js_cons (j_op op_addD add_ok (j_op op_mulW mulI_ok (j_var (i := 2) rfl (.inl rfl) rfl rfl) (j_var (i := 7) rfl (.inl rfl) rfl rfl)) (j_op op_mulW mulI_ok (j_var (i := 3) rfl (.inl rfl) rfl rfl) (j_var (i := 9) rfl (.inl rfl) rfl rfl))) (js_cons (j_op op_addD add_ok (j_op op_mulW mulI_ok (j_var (i := 4) rfl (.inl rfl) rfl rfl) (j_var (i := 6) rfl (.inl rfl) rfl rfl)) (j_op op_mulW mulI_ok (j_var (i := 5) rfl (.inl rfl) rfl rfl) (j_var (i := 8) rfl (.inl rfl) rfl rfl))) (js_cons (j_op op_addD add_ok (j_op op_mulW mulI_ok (j_var (i := 4) rfl (.inl rfl) rfl rfl) (j_var (i := 7) rfl (.inl rfl) rfl rfl)) (j_op op_mulW mulI_ok (j_var (i := 5) rfl (.inl rfl) rfl rfl) (j_var (i := 9) rfl (.inl rfl) rfl rfl))) js_nil (by rfl)) (by rfl)) (by rfl)) (by rfl)) (lenC (lenC (lenC (lenC lenN)))) (by rfl) (by rfl) (by rfl))))))
theorem bi_contrary {w : World} {K : PySem.W.Frag} {mg : Str → Option Value} (c : Facts w K mg) : Binds K c.fd_contrary ["one"] [] := c.F_contrary.bindsN fun _ _ _ _ _ _ us hl => match us, hl with | [_], _ => rfl
theorem ok_contrary {P : Program} {w : World} {base : Heap} {K : PySem.W.Frag} {mg : Str → Option Value} (c : Facts w K mg) : FnOk P w K mg base (L2.CX P w) 2 c.f_contrary c.fd_contrary ["one"] (spF K mg 1 f_contrary) :=
  fn_ok (N := ["one", "a", "b", "c", "d"]) (n := 4) c.F_contrary sc_contrary rfl fun cdv A outer s H E hr =>
  (jss_cons (js_asg (j_var (i := 0) rfl (.inl rfl) rfl rfl) (pg_seq rfl (pgs_cons (pg_name (i := 1) sc_contrary.nd rfl (.inl rfl)) (pgs_cons (pg_name (i := 2) sc_contrary.nd rfl (.inl rfl)) (pgs_cons (pg_name (i := 3) sc_contrary.nd rfl (.inl rfl)) (pgs_cons (pg_name (i := 4) sc_contrary.nd rfl (.inl rfl)) pgs_nil)))) rfl rfl) (g_seq (gs_cons (g_name) (gs_cons (g_name) (gs_cons (g_name) (gs_cons (g_name) gs_nil))))) rfl rfl rfl)
  (jss_one (js_ret (j_call ((ok_turning c).mono (by decide)) hr (takes_of (by rfl) (by rfl) (by rfl) (by rfl)) (by rfl) c.g_turning c.F_turning.kp (bi_turning c) (js_cons (j_var (i := 4) rfl (.inl rfl) rfl rfl) (js_cons (j_op op_sub sub_ok j_int (j_var (i := 2) rfl (.inl rfl) rfl rfl)) (js_cons (j_op op_sub sub_ok j_int (j_var (i := 3) rfl (.inl rfl) rfl rfl)) (js_cons (j_var (i := 1) rfl (.inl rfl) rfl rfl) js_nil (by rfl)) (by rfl)) (by rfl)) (by rfl)) (lenC (lenC (lenC (lenC lenN)))) (by rfl) (by rfl) (by rfl)))))
theorem bi_power_of {w : World} {K : PySem.W.Frag} {mg : Str → Option Value} (c : Facts w K mg) : Binds K c.fd_power_of ["one", "power"] [] := c.F_power_of.bindsN fun _ _ _ _ _ _ us hl => match us, hl with | [_, _], _ => rfl
theorem ok_power_of {P : Program} {w : World} {base : Heap} {K : PySem.W.Frag} {mg : Str → Option Value} (c : Facts w K mg) : FnOk P w K mg base (L2.CX P w) 3 c.f_power_of c.fd_power_of ["one", "power"] (spF K mg 2 f_power_of) :=
  fn_ok (N := ["one", "power", "found"]) (n := 1) c.F_power_of sc_power_of rfl fun cdv A outer s H E hr =>
  (jss_cons (js_if (jb_cmp op_lt cmpI_ok (nomark _) (j_var (i := 1) rfl (.inl rfl) rfl rfl) j_int) (jss_cons (js_set (ps_set (i := 0) sc_power_of.nd rfl (.inl rfl) (j_call ((ok_contrary c).mono (by decide)) hr (takes_of (by rfl) (by rfl) (by rfl) (by rfl)) (by rfl) c.g_contrary c.F_contrary.kp (bi_contrary c) (js_cons (j_var (i := 0) rfl (.inl rfl) rfl rfl) js_nil (by rfl)) (lenC lenN) (by rfl) (by rfl) (by rfl))) (fun _ _ _ h => h))
  (jss_one (js_set (ps_set (i := 1) sc_power_of.nd rfl (.inl rfl) (j_op op_sub sub_ok j_int (j_var (i := 1) rfl (.inl rfl) rfl rfl))) (fun _ _ _ h => h)))) jss_nil)
  (jss_cons (js_set (ps_set (i := 2) sc_power_of.nd rfl (.inl rfl) (j_glob (by rfl) c.c_NOTHING (by rfl))) (fun _ _ _ h => h))
  (jss_cons (js_whileC (passes_of rfl) (jb_cmp op_gt cmpI_ok (nomark _) (j_var (i := 1) rfl (.inl rfl) rfl rfl) j_int) (jss_cons (js_if (jb_cmp (op_eqX (hu64 hr)) eq_ok (nomark _) (j_op op_modN mod_ok (j_var (i := 1) rfl (.inl rfl) rfl rfl) j_int) j_int) (jss_one (js_set (ps_set (i := 2) sc_power_of.nd rfl (.inl rfl) (j_call ((ok_times c).mono (by decide)) hr (takes_of (by rfl) (by rfl) (by rfl) (by rfl)) (by rfl) c.g_times c.F_times.kp (bi_times c) (js_cons (j_var (i := 2) rfl (.inl rfl) rfl rfl) (js_cons (j_var (i := 0) rfl (.inl rfl) rfl rfl) js_nil (by rfl)) (by rfl)) (lenC (lenC lenN)) (by rfl) (by rfl) (by rfl))) (fun _ _ _ h => h))) jss_nil)
  (jss_cons (js_set (ps_set (i := 0) sc_power_of.nd rfl (.inl rfl) (j_call ((ok_times c).mono (by decide)) hr (takes_of (by rfl) (by rfl) (by rfl) (by rfl)) (by rfl) c.g_times c.F_times.kp (bi_times c) (js_cons (j_var (i := 0) rfl (.inl rfl) rfl rfl) (js_cons (j_var (i := 0) rfl (.inl rfl) rfl rfl) js_nil (by rfl)) (by rfl)) (lenC (lenC lenN)) (by rfl) (by rfl) (by rfl))) (fun _ _ _ h => h))
  (jss_one (js_set (ps_set (i := 1) sc_power_of.nd rfl (.inl rfl) (j_op op_fdivZ div_ok (j_var (i := 1) rfl (.inl rfl) rfl rfl) j_int)) (fun _ _ _ h => h))))))
  (jss_one (js_ret (j_var (i := 2) rfl (.inl rfl) rfl rfl))))))
theorem bi_gap_edge {w : World} {K : PySem.W.Frag} {mg : Str → Option Value} (c : Facts w K mg) : Binds K c.fd_gap_edge ["fan", "gap"] [] := c.F_gap_edge.bindsN fun _ _ _ _ _ _ us hl => match us, hl with | [_, _], _ => rfl
theorem ok_gap_edge {P : Program} {w : World} {base : Heap} {K : PySem.W.Frag} {mg : Str → Option Value} (c : Facts w K mg) : FnOk P w K mg base (L2.CX P w) 1 c.f_gap_edge c.fd_gap_edge ["fan", "gap"] (spF K mg 2 f_gap_edge) :=
  fn_ok (N := ["fan", "gap", "fractions"]) (n := 1) c.F_gap_edge sc_gap_edge rfl fun cdv A outer s H E hr =>
  (jss_cons (js_set (ps_set (i := 2) sc_gap_edge.nd rfl (.inl rfl) (j_ix (j_var (i := 0) rfl (.inl rfl) rfl rfl) j_int (fun _ _ => rfl))) (fun _ _ _ h => h))
  (jss_one (js_ret (j_tup (js_cons (j_ix (j_var (i := 2) rfl (.inl rfl) rfl rfl) (j_var (i := 1) rfl (.inl rfl) rfl rfl) (fun _ _ => rfl)) (js_cons (j_ix (j_var (i := 2) rfl (.inl rfl) rfl rfl) (j_op op_modN mod_ok (j_op op_addD add_ok (j_var (i := 1) rfl (.inl rfl) rfl rfl) j_int) (j_callB call_len len_ok (by rfl) c.b_len (by decide +kernel) (js_cons (j_var (i := 2) rfl (.inl rfl) rfl rfl) js_nil (by rfl)) (by decide) (by rfl) (by rfl) (by rfl))) (fun _ _ => rfl)) js_nil (by rfl)) (by rfl))))))
theorem bi_turning_between {w : World} {K : PySem.W.Frag} {mg : Str → Option Value} (c : Facts w K mg) : Binds K c.fd_turning_between ["one", "other"] [] := c.F_turning_between.bindsN fun _ _ _ _ _ _ us hl => match us, hl with | [_, _], _ => rfl
theorem ok_turning_between {P : Program} {w : World} {base : Heap} {K : PySem.W.Frag} {mg : Str → Option Value} (c : Facts w K mg) : FnOk P w K mg base (L2.CX P w) 3 c.f_turning_between c.fd_turning_between ["one", "other"] (spF K mg 2 f_turning_between) :=
  fn_ok (N := ["one", "other", "by"]) (n := 1) c.F_turning_between sc_turning_between rfl fun cdv A outer s H E hr =>
  (jss_cons (js_if (jb_not (jb_val (j_call ((ok_are_neighbours c).mono (by decide)) hr (takes_of (by rfl) (by rfl) (by rfl) (by rfl)) (by rfl) c.g_are_neighbours c.F_are_neighbours.kp (bi_are_neighbours c) (js_cons (j_var (i := 0) rfl (.inl rfl) rfl rfl) (js_cons (j_var (i := 1) rfl (.inl rfl) rfl rfl) js_nil (by rfl)) (by rfl)) (lenC (lenC lenN)) (by rfl) (by rfl) (by rfl)) (fun _ => rfl))) (jss_one (js_raise rfl (takes_of (by rfl) (by rfl) (by rfl) (by rfl)) c.r_NoTurning (by rfl) (by rfl))) jss_nil)
  (jss_cons (js_set (ps_set (i := 2) sc_turning_between.nd rfl (.inl rfl) (j_call ((ok_cross c).mono (by decide)) hr (takes_of (by rfl) (by rfl) (by rfl) (by rfl)) (by rfl) c.g_cross c.F_cross.kp (bi_cross c) (js_cons (j_var (i := 0) rfl (.inl rfl) rfl rfl) (js_cons (j_var (i := 1) rfl (.inl rfl) rfl rfl) js_nil (by rfl)) (by rfl)) (lenC (lenC lenN)) (by rfl) (by rfl) (by rfl))) (fun _ _ _ h => h))
  (jss_one (js_ret (j_call ((ok_turning c).mono (by decide)) hr (takes_of (by rfl) (by rfl) (by rfl) (by rfl)) (by rfl) c.g_turning c.F_turning.kp (bi_turning c) (js_cons (j_ix (j_var (i := 0) rfl (.inl rfl) rfl rfl) j_int (fun _ _ => rfl)) (js_cons (j_op op_mulW mulI_ok (j_var (i := 2) rfl (.inl rfl) rfl rfl) (j_ix (j_var (i := 1) rfl (.inl rfl) rfl rfl) j_int (fun _ _ => rfl))) (js_cons (j_ix (j_var (i := 0) rfl (.inl rfl) rfl rfl) j_int (fun _ _ => rfl)) (js_cons (j_op op_mulW mulI_ok (j_var (i := 2) rfl (.inl rfl) rfl rfl) (j_ix (j_var (i := 1) rfl (.inl rfl) rfl rfl) j_int (fun _ _ => rfl))) js_nil (by rfl)) (by rfl)) (by rfl)) (by rfl)) (lenC (lenC (lenC (lenC lenN)))) (by rfl) (by rfl) (by rfl))))))
theorem bi_gap_turning {w : World} {K : PySem.W.Frag} {mg : Str → Option Value} (c : Facts w K mg) : Binds K c.fd_gap_turning ["fan", "gap"] [] := c.F_gap_turning.bindsN fun _ _ _ _ _ _ us hl => match us, hl with | [_, _], _ => rfl
theorem ok_gap_turning {P : Program} {w : World} {base : Heap} {K : PySem.W.Frag} {mg : Str → Option Value} (c : Facts w K mg) : FnOk P w K mg base (L2.CX P w) 4 c.f_gap_turning c.fd_gap_turning ["fan", "gap"] (spF K mg 2 f_gap_turning) :=
  fn_ok (N := ["fan", "gap", "one", "other"]) (n := 2) c.F_gap_turning sc_gap_turning rfl fun cdv A outer s H E hr =>
  (jss_cons (js_asg (j_call ((ok_gap_edge c).mono (by decide)) hr (takes_of (by rfl) (by rfl) (by rfl) (by rfl)) (by rfl) c.g_gap_edge c.F_gap_edge.kp (bi_gap_edge c) (js_cons (j_var (i := 0) rfl (.inl rfl) rfl rfl) (js_cons (j_var (i := 1) rfl (.inl rfl) rfl rfl) js_nil (by rfl)) (by rfl)) (lenC (lenC lenN)) (by rfl) (by rfl) (by rfl)) (pg_seq rfl (pgs_cons (pg_name (i := 2) sc_gap_turning.nd rfl (.inl rfl)) (pgs_cons (pg_name (i := 3) sc_gap_turning.nd rfl (.inl rfl)) pgs_nil)) rfl rfl) (g_seq (gs_cons (g_name) (gs_cons (g_name) gs_nil))) rfl rfl rfl)
  (jss_one (js_ret (j_call ((ok_turning_between c).mono (by decide)) hr (takes_of (by rfl) (by rfl) (by rfl) (by rfl)) (by rfl) c.g_turning_between c.F_turning_between.kp (bi_turning_between c) (js_cons (j_var (i := 2) rfl (.inl rfl) rfl rfl) (js_cons (j_var (i := 3) rfl (.inl rfl) rfl rfl) js_nil (by rfl)) (by rfl)) (lenC (lenC lenN)) (by rfl) (by rfl) (by rfl)))))
theorem bi_carried {w : World} {K : PySem.W.Frag} {mg : Str → Option Value} (c : Facts w K mg) : Binds K c.fd_carried ["one", "inner"] [] := c.F_carried.bindsN fun _ _ _ _ _ _ us hl => match us, hl with | [_, _], _ => rfl
theorem ok_carried {P : Program} {w : World} {base : Heap} {K : PySem.W.Frag} {mg : Str → Option Value} (c : Facts w K mg) : FnOk P w K mg base (L2.CX P w) 3 c.f_carried c.fd_carried ["one", "inner"] (spF K mg 2 f_carried) :=
  fn_ok (N := ["one", "inner"]) (n := 0) c.F_carried sc_carried rfl fun cdv A outer s H E hr =>
  (jss_one (js_ret (j_call ((ok_times c).mono (by decide)) hr (takes_of (by rfl) (by rfl) (by rfl) (by rfl)) (by rfl) c.g_times c.F_times.kp (bi_times c) (js_cons (j_call ((ok_times c).mono (by decide)) hr (takes_of (by rfl) (by rfl) (by rfl) (by rfl)) (by rfl) c.g_times c.F_times.kp (bi_times c) (js_cons (j_var (i := 0) rfl (.inl rfl) rfl rfl) (js_cons (j_var (i := 1) rfl (.inl rfl) rfl rfl) js_nil (by rfl)) (by rfl)) (lenC (lenC lenN)) (by rfl) (by rfl) (by rfl)) (js_cons (j_call ((ok_contrary c).mono (by decide)) hr (takes_of (by rfl) (by rfl) (by rfl) (by rfl)) (by rfl) c.g_contrary c.F_contrary.kp (bi_contrary c) (js_cons (j_var (i := 0) rfl (.inl rfl) rfl rfl) js_nil (by rfl)) (lenC lenN) (by rfl) (by rfl) (by rfl)) js_nil (by rfl)) (by rfl)) (lenC (lenC lenN)) (by rfl) (by rfl) (by rfl))))
theorem bi_glue {w : World} {K : PySem.W.Frag} {mg : Str → Option Value} (c : Facts w K mg) : Binds K c.fd_glue ["fan", "gap"] [] := c.F_glue.bindsN fun _ _ _ _ _ _ us hl => match us, hl with | [_, _], _ => rfl
theorem ok_glue {P : Program} {w : World} {base : Heap} {K : PySem.W.Frag} {mg : Str → Option Value} (c : Facts w K mg) : FnOk P w K mg base (L2.CX P w) 5 c.f_glue c.fd_glue ["fan", "gap"] (spF K mg 2 f_glue) :=
  fn_ok (N := ["fan", "gap", "mark", "here"]) (n := 2) c.F_glue sc_glue rfl fun cdv A outer s H E hr =>
  (jss_cons (js_set (ps_set (i := 2) sc_glue.nd rfl (.inl rfl) (j_ix (j_ix (j_var (i := 0) rfl (.inl rfl) rfl rfl) j_int (fun _ _ => rfl)) (j_var (i := 1) rfl (.inl rfl) rfl rfl) (fun _ _ => rfl))) (fun _ _ _ h => h))
  (jss_cons (js_set (ps_set (i := 3) sc_glue.nd rfl (.inl rfl) (j_call ((ok_gap_turning c).mono (by decide)) hr (takes_of (by rfl) (by rfl) (by rfl) (by rfl)) (by rfl) c.g_gap_turning c.F_gap_turning.kp (bi_gap_turning c) (js_cons (j_var (i := 0) rfl (.inl rfl) rfl rfl) (js_cons (j_var (i := 1) rfl (.inl rfl) rfl rfl) js_nil (by rfl)) (by rfl)) (lenC (lenC lenN)) (by rfl) (by rfl) (by rfl))) (fun _ _ _ h => h))
  (jss_cons (js_if (jb_cmp (op_eqX (hu64 hr)) eq_ok (nomark _) (j_var (i := 2) rfl (.inl rfl) rfl rfl) j_str) (jss_one (js_ret (j_call ((ok_carried c).mono (by decide)) hr (takes_of (by rfl) (by rfl) (by rfl) (by rfl)) (by rfl) c.g_carried c.F_carried.kp (bi_carried c) (js_cons (j_var (i := 3) rfl (.inl rfl) rfl rfl) (js_cons (j_glob (by rfl) c.c_HALF (by rfl)) js_nil (by rfl)) (by rfl)) (lenC (lenC lenN)) (by rfl) (by rfl) (by rfl)))) jss_nil)
  (jss_cons (js_if (jb_cmp (op_eqX (hu64 hr)) eq_ok (nomark _) (j_var (i := 2) rfl (.inl rfl) rfl rfl) j_str) (jss_one (js_ret (j_call ((ok_carried c).mono (by decide)) hr (takes_of (by rfl) (by rfl) (by rfl) (by rfl)) (by rfl) c.g_carried c.F_carried.kp (bi_carried c) (js_cons (j_var (i := 3) rfl (.inl rfl) rfl rfl) (js_cons (j_call ((ok_times c).mono (by decide)) hr (takes_of (by rfl) (by rfl) (by rfl) (by rfl)) (by rfl) c.g_times c.F_times.kp (bi_times c) (js_cons (j_call ((ok_times c).mono (by decide)) hr (takes_of (by rfl) (by rfl) (by rfl) (by rfl)) (by rfl) c.g_times c.F_times.kp (bi_times c) (js_cons (j_glob (by rfl) c.c_HALF (by rfl)) (js_cons (j_glob (by rfl) c.c_THIRD (by rfl)) js_nil (by rfl)) (by rfl)) (lenC (lenC lenN)) (by rfl) (by rfl) (by rfl)) (js_cons (j_glob (by rfl) c.c_HALF (by rfl)) js_nil (by rfl)) (by rfl)) (lenC (lenC lenN)) (by rfl) (by rfl) (by rfl)) js_nil (by rfl)) (by rfl)) (lenC (lenC lenN)) (by rfl) (by rfl) (by rfl)))) jss_nil)
  (jss_one (js_ret (j_call ((ok_times c).mono (by decide)) hr (takes_of (by rfl) (by rfl) (by rfl) (by rfl)) (by rfl) c.g_times c.F_times.kp (bi_times c) (js_cons (j_call ((ok_times c).mono (by decide)) hr (takes_of (by rfl) (by rfl) (by rfl) (by rfl)) (by rfl) c.g_times c.F_times.kp (bi_times c) (js_cons (j_call ((ok_gap_turning c).mono (by decide)) hr (takes_of (by rfl) (by rfl) (by rfl) (by rfl)) (by rfl) c.g_gap_turning c.F_gap_turning.kp (bi_gap_turning c) (js_cons (j_var (i := 0) rfl (.inl rfl) rfl rfl) (js_cons (j_var (i := 2) rfl (.inl rfl) rfl rfl) js_nil (by rfl)) (by rfl)) (lenC (lenC lenN)) (by rfl) (by rfl) (by rfl)) (js_cons (j_glob (by rfl) c.c_HALF (by rfl)) js_nil (by rfl)) (by rfl)) (lenC (lenC lenN)) (by rfl) (by rfl) (by rfl)) (js_cons (j_call ((ok_contrary c).mono (by decide)) hr (takes_of (by rfl) (by rfl) (by rfl) (by rfl)) (by rfl) c.g_contrary c.F_contrary.kp (bi_contrary c) (js_cons (j_var (i := 3) rfl (.inl rfl) rfl rfl) js_nil (by rfl)) (lenC lenN) (by rfl) (by rfl) (by rfl)) js_nil (by rfl)) (by rfl)) (lenC (lenC lenN)) (by rfl) (by rfl) (by rfl))))))))
theorem bi_row_turning {w : World} {K : PySem.W.Frag} {mg : Str → Option Value} (c : Facts w K mg) : Binds K c.fd_row_turning ["fan", "glues"] [] := c.F_row_turning.bindsN fun _ _ _ _ _ _ us hl => match us, hl with | [_, _], _ => rfl
theorem ok_row_turning {P : Program} {w : World} {base : Heap} {K : PySem.W.Frag} {mg : Str → Option Value} (c : Facts w K mg) : FnOk P w K mg base (L2.CX P w) 6 c.f_row_turning c.fd_row_turning ["fan", "glues"] (spF K mg 2 f_row_turning) :=
  fn_ok (N := ["fan", "glues", "found", "gap", "power"]) (n := 3) c.F_row_turning sc_row_turning rfl fun cdv A outer s H E hr =>
  (jss_cons (js_set (ps_set (i := 2) sc_row_turning.nd rfl (.inl rfl) (j_glob (by rfl) c.c_NOTHING (by rfl))) (fun _ _ _ h => h))
  (jss_cons (js_for (passes_of rfl) rfl (ji_any (j_var (i := 1) rfl (.inl rfl) rfl rfl)) (pg_seq rfl (pgs_cons (pg_name (i := 3) sc_row_turning.nd rfl (.inl rfl)) (pgs_cons (pg_name (i := 4) sc_row_turning.nd rfl (.inl rfl)) pgs_nil)) rfl rfl) (g_seq (gs_cons (g_name) (gs_cons (g_name) gs_nil))) (jss_one (js_set (ps_set (i := 2) sc_row_turning.nd rfl (.inl rfl) (j_call ((ok_times c).mono (by decide)) hr (takes_of (by rfl) (by rfl) (by rfl) (by rfl)) (by rfl) c.g_times c.F_times.kp (bi_times c) (js_cons (j_var (i := 2) rfl (.inl rfl) rfl rfl) (js_cons (j_call ((ok_power_of c).mono (by decide)) hr (takes_of (by rfl) (by rfl) (by rfl) (by rfl)) (by rfl) c.g_power_of c.F_power_of.kp (bi_power_of c) (js_cons (j_call ((ok_glue c).mono (by decide)) hr (takes_of (by rfl) (by rfl) (by rfl) (by rfl)) (by rfl) c.g_glue c.F_glue.kp (bi_glue c) (js_cons (j_var (i := 0) rfl (.inl rfl) rfl rfl) (js_cons (j_var (i := 3) rfl (.inl rfl) rfl rfl) js_nil (by rfl)) (by rfl)) (lenC (lenC lenN)) (by rfl) (by rfl) (by rfl)) (js_cons (j_var (i := 4) rfl (.inl rfl) rfl rfl) js_nil (by rfl)) (by rfl)) (lenC (lenC lenN)) (by rfl) (by rfl) (by rfl)) js_nil (by rfl)) (by rfl)) (lenC (lenC lenN)) (by rfl) (by rfl) (by rfl))) (fun _ _ _ h => h))) (fun _ => rfl))
  (jss_one (js_ret (j_var (i := 2) rfl (.inl rfl) rfl rfl)))))
theorem bi_look_in {w : World} {K : PySem.W.Frag} {mg : Str → Option Value} (c : Facts w K mg) : Binds K c.fd_look_in ["fan", "one", "glues"] [] := c.F_look_in.bindsN fun _ _ _ _ _ _ us hl => match us, hl with | [_, _, _], _ => rfl
theorem ok_look_in {P : Program} {w : World} {base : Heap} {K : PySem.W.Frag} {mg : Str → Option Value} (c : Facts w K mg) : FnOk P w K mg base (L2.CX P w) 7 c.f_look_in c.fd_look_in ["fan", "one", "glues"] (spF K mg 3 f_look_in) :=
  fn_ok (N := ["fan", "one", "glues"]) (n := 0) c.F_look_in sc_look_in rfl fun cdv A outer s H E hr =>
  (jss_cons (js_expr (j_call ((ok_ask c).mono (by decide)) hr (takes_of (by rfl) (by rfl) (by rfl) (by rfl)) (by rfl) c.g_ask c.F_ask.kp (bi_ask c) (js_cons (j_call ((ok_is_fan c).mono (by decide)) hr (takes_of (by rfl) (by rfl) (by rfl) (by rfl)) (by rfl) c.g_is_fan c.F_is_fan.kp (bi_is_fan c) (js_cons (j_var (i := 0) rfl (.inl rfl) rfl rfl) js_nil (by rfl)) (lenC lenN) (by rfl) (by rfl) (by rfl)) (js_cons j_int js_nil (by rfl)) (by rfl)) (lenC (lenC lenN)) (by rfl) (by rfl) (by rfl)) rfl)
  (jss_cons (js_expr (j_call ((ok_ask c).mono (by decide)) hr (takes_of (by rfl) (by rfl) (by rfl) (by rfl)) (by rfl) c.g_ask c.F_ask.kp (bi_ask c) (js_cons (j_call ((ok_is_turning c).mono (by decide)) hr (takes_of (by rfl) (by rfl) (by rfl) (by rfl)) (by rfl) c.g_is_turning c.F_is_turning.kp (bi_is_turning c) (js_cons (j_var (i := 1) rfl (.inl rfl) rfl rfl) js_nil (by rfl)) (lenC lenN) (by rfl) (by rfl) (by rfl)) (js_cons j_int js_nil (by rfl)) (by rfl)) (lenC (lenC lenN)) (by rfl) (by rfl) (by rfl)) rfl)
  (jss_cons (js_expr (j_call ((ok_ask c).mono (by decide)) hr (takes_of (by rfl) (by rfl) (by rfl) (by rfl)) (by rfl) c.g_ask c.F_ask.kp (bi_ask c) (js_cons (j_call ((ok_are_glues c).mono (by decide)) hr (takes_of (by rfl) (by rfl) (by rfl) (by rfl)) (by rfl) c.g_are_glues c.F_are_glues.kp (bi_are_glues c) (js_cons (j_var (i := 0) rfl (.inl rfl) rfl rfl) (js_cons (j_var (i := 2) rfl (.inl rfl) rfl rfl) js_nil (by rfl)) (by rfl)) (lenC (lenC lenN)) (by rfl) (by rfl) (by rfl)) (js_cons j_int js_nil (by rfl)) (by rfl)) (lenC (lenC lenN)) (by rfl) (by rfl) (by rfl)) rfl)
  (jss_one (js_expr (j_call ((ok_ask c).mono (by decide)) hr (takes_of (by rfl) (by rfl) (by rfl) (by rfl)) (by rfl) c.g_ask c.F_ask.kp (bi_ask c) (js_cons (j_cmp (op_eqX (hu64 hr)) eq_ok (nomark _) (j_call ((ok_row_turning c).mono (by decide)) hr (takes_of (by rfl) (by rfl) (by rfl) (by rfl)) (by rfl) c.g_row_turning c.F_row_turning.kp (bi_row_turning c) (js_cons (j_var (i := 0) rfl (.inl rfl) rfl rfl) (js_cons (j_var (i := 2) rfl (.inl rfl) rfl rfl) js_nil (by rfl)) (by rfl)) (lenC (lenC lenN)) (by rfl) (by rfl) (by rfl)) (j_var (i := 1) rfl (.inl rfl) rfl rfl)) (js_cons j_int js_nil (by rfl)) (by rfl)) (lenC (lenC lenN)) (by rfl) (by rfl) (by rfl)) rfl)))))
theorem bi_met_from {w : World} {K : PySem.W.Frag} {mg : Str → Option Value} (c : Facts w K mg) : Binds K c.fd_met_from ["halves", "thirds", "first"] [] := c.F_met_from.bindsN fun _ _ _ _ _ _ us hl => match us, hl with | [_, _, _], _ => rfl
theorem ok_met_from {P : Program} {w : World} {base : Heap} {K : PySem.W.Frag} {mg : Str → Option Value} (c : Facts w K mg) : FnOk P w K mg base (L2.CX P w) 1 c.f_met_from c.fd_met_from ["halves", "thirds", "first"] (spF K mg 3 f_met_from) :=
  fn_ok (N := ["halves", "thirds", "first", "met", "seen", "at", "other"]) (n := 4) c.F_met_from sc_met_from rfl fun cdv A outer s H E hr =>
  (jss_cons (js_set (ps_set (i := 3) sc_met_from.nd rfl (.inl rfl) (j_lst (js_cons (j_var (i := 2) rfl (.inl rfl) rfl rfl) js_nil (by rfl)))) (fun _ _ _ h => h))
  (jss_cons js_bad
  (jss_cons (js_set (ps_set (i := 5) sc_met_from.nd rfl (.inl rfl) j_int) (fun _ _ _ h => h))
  (jss_cons (js_whileC (passes_of rfl) (jb_cmp op_lt cmpI_ok (nomark _) (j_var (i := 5) rfl (.inl rfl) rfl rfl) (j_callB call_len len_ok (by rfl) c.b_len (by decide +kernel) (js_cons (j_var (i := 3) rfl (.inl rfl) rfl rfl) js_nil (by rfl)) (by decide) (by rfl) (by rfl) (by rfl))) (jss_cons (js_for (passes_of rfl) rfl (ji_any (j_tup (js_cons (j_ix (j_var (i := 0) rfl (.inl rfl) rfl rfl) (j_ix (j_var (i := 3) rfl (.inl rfl) rfl rfl) (j_var (i := 5) rfl (.inl rfl) rfl rfl) (fun _ _ => rfl)) (fun _ _ => rfl)) (js_cons (j_ix (j_var (i := 1) rfl (.inl rfl) rfl rfl) (j_ix (j_var (i := 3) rfl (.inl rfl) rfl rfl) (j_var (i := 5) rfl (.inl rfl) rfl rfl) (fun _ _ => rfl)) (fun _ _ => rfl)) js_nil (by rfl)) (by rfl)))) (pg_name (i := 6) sc_met_from.nd rfl (.inl rfl)) (g_name) (jss_one (js_if (jb_cmp (op_notInX (hu65 hr)) notIn_ok (by with_unfolding_all rfl) (j_var (i := 6) rfl (.inl rfl) rfl rfl) (j_var (i := 4) rfl (.inl rfl) rfl rfl)) (jss_cons (js_asg j_bl (pg_sub (j_var (i := 4) rfl (.inl rfl) rfl rfl) (j_var (i := 6) rfl (.inl rfl) rfl rfl) set_list) g_sub rfl rfl rfl)
  (jss_one (js_expr (j_append (j_var (i := 3) rfl (.inl rfl) rfl rfl) (j_var (i := 6) rfl (.inl rfl) rfl rfl) (by rfl) (by rfl) (by rfl) (by rfl) (by rfl)) rfl))) jss_nil)) (fun _ => rfl))
  (jss_one (js_aug (i := 5) sc_met_from.nd rfl (.inl rfl) j_int ip_add ipAdd_ok (.inr rfl)))))
  (jss_one (js_ret (j_var (i := 3) rfl (.inl rfl) rfl rfl)))))))
theorem bi_goes_back {w : World} {K : PySem.W.Frag} {mg : Str → Option Value} (c : Facts w K mg) : Binds K c.fd_goes_back ["exchange", "times"] [] := c.F_goes_back.bindsN fun _ _ _ _ _ _ us hl => match us, hl with | [_, _], _ => rfl
theorem ok_goes_back {P : Program} {w : World} {base : Heap} {K : PySem.W.Frag} {mg : Str → Option Value} (c : Facts w K mg) : FnOk P w K mg base (L2.CX P w) 3 c.f_goes_back c.fd_goes_back ["exchange", "times"] (spF K mg 2 f_goes_back) :=
  fn_ok (N := ["exchange", "times", "place", "here", "turn"]) (n := 3) c.F_goes_back sc_goes_back rfl fun cdv A outer s H E hr =>
  (jss_cons (js_for (passes_of rfl) rfl (ji_range1 (by rfl) c.b_range (js_cons (j_callB call_len len_ok (by rfl) c.b_len (by decide +kernel) (js_cons (j_var (i := 0) rfl (.inl rfl) rfl rfl) js_nil (by rfl)) (by decide) (by rfl) (by rfl) (by rfl)) js_nil (by rfl)) (by rfl)) (pg_name (i := 2) sc_goes_back.nd rfl (.inl rfl)) (g_name) (jss_cons (js_set (ps_set (i := 3) sc_goes_back.nd rfl (.inl rfl) (j_var (i := 2) rfl (.inl rfl) rfl rfl)) (fun _ _ _ h => h))
  (jss_cons (js_for (passes_of rfl) rfl (ji_range1 (by rfl) c.b_range (js_cons (j_var (i := 1) rfl (.inl rfl) rfl rfl) js_nil (by rfl)) (by rfl)) (pg_name (i := 4) sc_goes_back.nd rfl (.inl rfl)) (g_name) (jss_one (js_set (ps_set (i := 3) sc_goes_back.nd rfl (.inl rfl) (j_ix (j_var (i := 0) rfl (.inl rfl) rfl rfl) (j_var (i := 3) rfl (.inl rfl) rfl rfl) (fun _ _ => rfl))) (fun _ _ _ h => h))) (fun _ => rfl))
  (jss_one (js_if (jb_cmp (op_neX (hu64 hr)) ne_ok (nomark _) (j_var (i := 3) rfl (.inl rfl) rfl rfl) (j_var (i := 2) rfl (.inl rfl) rfl rfl)) (jss_one (js_ret j_bl)) jss_nil)))) (fun _ => rfl))
  (jss_one (js_ret j_bl)))
theorem bi_is_number {w : World} {K : PySem.W.Frag} {mg : Str → Option Value} (c : Facts w K mg) : Binds K c.fd_is_number ["thing", "many"] [] := c.F_is_number.bindsN fun _ _ _ _ _ _ us hl => match us, hl with | [_, _], _ => rfl
theorem ok_is_number {P : Program} {w : World} {base : Heap} {K : PySem.W.Frag} {mg : Str → Option Value} (c : Facts w K mg) : FnOk P w K mg base (L2.CX P w) 1 c.f_is_number c.fd_is_number ["thing", "many"] (spF K mg 2 f_is_number) :=
  fn_ok (N := ["thing", "many"]) (n := 0) c.F_is_number sc_is_number rfl fun cdv A outer s H E hr =>
  (jss_one (js_ret (j_and (j_isi kit_int (by rfl) c.b_isinstance (by rfl) c.b_int (by decide +kernel) (j_var (i := 0) rfl (.inl rfl) rfl rfl) (by decide) (by rfl) (by rfl) (by rfl) (by rfl)) (j_and (j_not (j_isi kit_bool (by rfl) c.b_isinstance (by rfl) c.b_bool (by decide +kernel) (j_var (i := 0) rfl (.inl rfl) rfl rfl) (by decide) (by rfl) (by rfl) (by rfl) (by rfl))) (j_one (j_chain op_le op_lt j_int (j_var (i := 0) rfl (.inl rfl) rfl rfl) (j_var (i := 1) rfl (.inl rfl) rfl rfl) (by with_unfolding_all rfl)))))))
theorem bi_is_table {w : World} {K : PySem.W.Frag} {mg : Str → Option Value} (c : Facts w K mg) : Binds K c.fd_is_table ["thing"] [] := c.F_is_table.bindsN fun _ _ _ _ _ _ us hl => match us, hl with | [_], _ => rfl
theorem ok_is_table {P : Program} {w : World} {base : Heap} {K : PySem.W.Frag} {mg : Str → Option Value} (c : Facts w K mg) : FnOk P w K mg base (L2.CX P w) 4 c.f_is_table c.fd_is_table ["thing"] (spF K mg 1 f_is_table) :=
  fn_ok (N := ["thing", "many", "halves", "thirds", "one"]) (n := 4) c.F_is_table sc_is_table rfl fun cdv A outer s H E hr =>
  (jss_cons (js_if (jw_or (jb_not (jb_val (j_isi kit_tup (by rfl) c.b_isinstance (by rfl) c.b_tuple (by decide +kernel) (j_var (i := 0) rfl (.inl rfl) rfl rfl) (by decide) (by rfl) (by rfl) (by rfl) (by rfl)) (fun _ => rfl))) (jw_or1 (jb_cmp (op_neX (hu64 hr)) ne_ok (nomark _) (j_callB call_len len_ok (by rfl) c.b_len (by decide +kernel) (js_cons (j_var (i := 0) rfl (.inl rfl) rfl rfl) js_nil (by rfl)) (by decide) (by rfl) (by rfl) (by rfl)) j_int))).pt (jss_one (js_ret j_bl)) jss_nil)
  (jss_cons (js_asg (j_var (i := 0) rfl (.inl rfl) rfl rfl) (pg_seq rfl (pgs_cons (pg_name (i := 2) sc_is_table.nd rfl (.inl rfl)) (pgs_cons (pg_name (i := 3) sc_is_table.nd rfl (.inl rfl)) pgs_nil)) rfl rfl) (g_seq (gs_cons (g_name) (gs_cons (g_name) gs_nil))) rfl rfl rfl)
  (jss_cons (js_if (jw_or (jb_not (jb_val (j_isi kit_tup (by rfl) c.b_isinstance (by rfl) c.b_tuple (by decide +kernel) (j_var (i := 2) rfl (.inl rfl) rfl rfl) (by decide) (by rfl) (by rfl) (by rfl) (by rfl)) (fun _ => rfl))) (jw_or (jb_not (jb_val (j_isi kit_tup (by rfl) c.b_isinstance (by rfl) c.b_tuple (by decide +kernel) (j_var (i := 3) rfl (.inl rfl) rfl rfl) (by decide) (by rfl) (by rfl) (by rfl) (by rfl)) (fun _ => rfl))) (jw_or1 (jb_cmp (op_neX (hu64 hr)) ne_ok (nomark _) (j_callB call_len len_ok (by rfl) c.b_len (by decide +kernel) (js_cons (j_var (i := 2) rfl (.inl rfl) rfl rfl) js_nil (by rfl)) (by decide) (by rfl) (by rfl) (by rfl)) (j_callB call_len len_ok (by rfl) c.b_len (by decide +kernel) (js_cons (j_var (i := 3) rfl (.inl rfl) rfl rfl) js_nil (by rfl)) (by decide) (by rfl) (by rfl) (by rfl)))))).pt (jss_one (js_ret j_bl)) jss_nil)
  (jss_cons (js_set (ps_set (i := 1) sc_is_table.nd rfl (.inr rfl) (j_callB call_len len_ok (by rfl) c.b_len (by decide +kernel) (js_cons (j_var (i := 2) rfl (.inl rfl) rfl rfl) js_nil (by rfl)) (by decide) (by rfl) (by rfl) (by rfl))) (fun _ _ _ h => h))
  (jss_cons (js_if (jw_or (jb_not (jb_chain op_le op_le j_int (j_var (i := 1) rfl (.inr (.inl rfl)) rfl rfl) (j_glob (by rfl) c.c_MOST_places (by rfl)) (by with_unfolding_all rfl))) (jw_or1 (jb_not (jb_val (j_callB (cr_all rfl) all_ok (by rfl) c.b_all (by decide +kernel) (js_cons (j_lc (own := [("one", 4)]) rfl sc_is_table.nd (ji_any (j_op op_addD add_ok (j_var (i := 2) rfl (.inl rfl) rfl rfl) (j_var (i := 3) rfl (.inl rfl) rfl rfl))) (blkOk_by (N := ["thing", "many", "halves", "thirds", "one"]) (sc := (defScope s_is_table)) (by decide +kernel)) (gp_name (by decide)) (fun _ _ _ _ _ => (pg_name (i := 4) sc_is_table.nd rfl (.inl rfl))) (fun _ _ _ _ _ => jts_nil) (fun _ _ _ _ _ => (j_call ((ok_is_number c).mono (by decide)) hr takes0 (by rfl) c.g_is_number c.F_is_number.kp (bi_is_number c) (js_cons (j_var (i := 4) rfl (.inl rfl) rfl rfl) (js_cons (j_var (i := 1) rfl (by first | exact Or.inr (Or.inl rfl) | exact Or.inr (Or.inr rfl) | exact Or.inl rfl) rfl rfl) js_nil (by rfl)) (by rfl)) (lenC (lenC lenN)) (by rfl) (by rfl) (by rfl))) (fun _ => rfl)) js_nil (by rfl)) (by decide) (by rfl) (by rfl) (by rfl)) (fun _ => rfl))))).pt (jss_one (js_ret j_bl)) jss_nil)
  (jss_cons (js_if (jw_or (jb_not (jb_val (j_call ((ok_goes_back c).mono (by decide)) hr (takes_of (by rfl) (by rfl) (by rfl) (by rfl)) (by rfl) c.g_goes_back c.F_goes_back.kp (bi_goes_back c) (js_cons (j_var (i := 2) rfl (.inl rfl) rfl rfl) (js_cons j_int js_nil (by rfl)) (by rfl)) (lenC (lenC lenN)) (by rfl) (by rfl) (by rfl)) (fun _ => rfl))) (jw_or1 (jb_not (jb_val (j_call ((ok_goes_back c).mono (by decide)) hr (takes_of (by rfl) (by rfl) (by rfl) (by rfl)) (by rfl) c.g_goes_back c.F_goes_back.kp (bi_goes_back c) (js_cons (j_var (i := 3) rfl (.inl rfl) rfl rfl) (js_cons j_int js_nil (by rfl)) (by rfl)) (lenC (lenC lenN)) (by rfl) (by rfl) (by rfl)) (fun _ => rfl))))).pt (jss_one (js_ret j_bl)) jss_nil)
  (jss_one (js_ret (j_cmp (op_eqX (hu64 hr)) eq_ok (nomark _) (j_call ((ok_met_from c).mono (by decide)) hr (takes_of (by rfl) (by rfl) (by rfl) (by rfl)) (by rfl) c.g_met_from c.F_met_from.kp (bi_met_from c) (js_cons (j_var (i := 2) rfl (.inl rfl) rfl rfl) (js_cons (j_var (i := 3) rfl (.inl rfl) rfl rfl) (js_cons j_int js_nil (by rfl)) (by rfl)) (by rfl)) (lenC (lenC (lenC lenN))) (by rfl) (by rfl) (by rfl)) (j_listRange rfl (by rfl) c.b_range (by rfl) c.b_list (js_cons (j_var (i := 1) rfl (.inr (.inl rfl)) rfl rfl) js_nil (by rfl)) (by rfl) (by rfl) (by rfl) (by rfl)))))))))))
theorem bi_is_word {w : World} {K : PySem.W.Frag} {mg : Str → Option Value} (c : Facts w K mg) : Binds K c.fd_is_word ["thing"] [] := c.F_is_word.bindsN fun _ _ _ _ _ _ us hl => match us, hl with | [_], _ => rfl
theorem ok_is_word {P : Program} {w : World} {base : Heap} {K : PySem.W.Frag} {mg : Str → Option Value} (c : Facts w K mg) : FnOk P w K mg base (L2.CX P w) 1 c.f_is_word c.fd_is_word ["thing"] (spF K mg 1 f_is_word) :=
  fn_ok (N := ["thing", "letter"]) (n := 1) c.F_is_word sc_is_word rfl fun cdv A outer s H E hr =>
  (jss_one (js_ret (j_and (j_isi kit_str (by rfl) c.b_isinstance (by rfl) c.b_str (by decide +kernel) (j_var (i := 0) rfl (.inl rfl) rfl rfl) (by decide) (by rfl) (by rfl) (by rfl) (by rfl)) (j_and (j_cmp op_le cmpI_ok (nomark _) (j_callB call_len len_ok (by rfl) c.b_len (by decide +kernel) (js_cons (j_var (i := 0) rfl (.inl rfl) rfl rfl) js_nil (by rfl)) (by decide) (by rfl) (by rfl) (by rfl)) (j_glob (by rfl) c.c_MOST_LETTERS (by rfl))) (j_one (j_callB (cr_all rfl) all_ok (by rfl) c.b_all (by decide +kernel) (js_cons (j_lc (own := [("letter", 1)]) rfl sc_is_word.nd (ji_any (j_var (i := 0) rfl (.inl rfl) rfl rfl)) (blkOk_by (N := ["thing", "letter"]) (sc := (defScope s_is_word)) (by decide +kernel)) (gp_name (by decide)) (fun _ _ _ _ _ => (pg_name (i := 1) sc_is_word.nd rfl (.inl rfl))) (fun _ _ _ _ _ => jts_nil) (fun _ _ _ _ _ => (j_tabIn c.t_LETTERS (by rfl) (by rfl) (j_var (i := 1) rfl (.inl rfl) rfl rfl) (by with_unfolding_all rfl))) (fun _ => rfl)) js_nil (by rfl)) (by decide) (by rfl) (by rfl) (by rfl)))))))
theorem bi_word_leads {w : World} {K : PySem.W.Frag} {mg : Str → Option Value} (c : Facts w K mg) : Binds K c.fd_word_leads ["table", "word"] [] := c.F_word_leads.bindsN fun _ _ _ _ _ _ us hl => match us, hl with | [_, _], _ => rfl
theorem ok_word_leads {P : Program} {w : World} {base : Heap} {K : PySem.W.Frag} {mg : Str → Option Value} (c : Facts w K mg) : FnOk P w K mg base (L2.CX P w) 1 c.f_word_leads c.fd_word_leads ["table", "word"] (spF K mg 2 f_word_leads) :=
  fn_ok (N := ["table", "word", "place", "letter", "halves", "thirds"]) (n := 4) c.F_word_leads sc_word_leads rfl fun cdv A outer s H E hr =>
  (jss_cons (js_asg (j_var (i := 0) rfl (.inl rfl) rfl rfl) (pg_seq rfl (pgs_cons (pg_name (i := 4) sc_word_leads.nd rfl (.inl rfl)) (pgs_cons (pg_name (i := 5) sc_word_leads.nd rfl (.inl rfl)) pgs_nil)) rfl rfl) (g_seq (gs_cons (g_name) (gs_cons (g_name) gs_nil))) rfl rfl rfl)
  (jss_cons (js_set (ps_set (i := 2) sc_word_leads.nd rfl (.inl rfl) j_int) (fun _ _ _ h => h))
  (jss_cons (js_for (passes_of rfl) rfl (ji_any (j_var (i := 1) rfl (.inl rfl) rfl rfl)) (pg_name (i := 3) sc_word_leads.nd rfl (.inl rfl)) (g_name) (jss_one (js_if (jb_cmp (op_eqX (hu64 hr)) eq_ok (nomark _) (j_var (i := 3) rfl (.inl rfl) rfl rfl) j_str) (jss_one (js_set (ps_set (i := 2) sc_word_leads.nd rfl (.inl rfl) (j_ix (j_var (i := 4) rfl (.inl rfl) rfl rfl) (j_var (i := 2) rfl (.inl rfl) rfl rfl) (fun _ _ => rfl))) (fun _ _ _ h => h))) (jss_cons (js_set (ps_set (i := 2) sc_word_leads.nd rfl (.inl rfl) (j_ix (j_var (i := 5) rfl (.inl rfl) rfl rfl) (j_var (i := 2) rfl (.inl rfl) rfl rfl) (fun _ _ => rfl))) (fun _ _ _ h => h))
  (jss_one (js_if (jb_cmp (op_eqX (hu64 hr)) eq_ok (nomark _) (j_var (i := 3) rfl (.inl rfl) rfl rfl) j_str) (jss_one (js_set (ps_set (i := 2) sc_word_leads.nd rfl (.inl rfl) (j_ix (j_var (i := 5) rfl (.inl rfl) rfl rfl) (j_var (i := 2) rfl (.inl rfl) rfl rfl) (fun _ _ => rfl))) (fun _ _ _ h => h))) jss_nil))))) (fun _ => rfl))
  (jss_one (js_ret (j_var (i := 2) rfl (.inl rfl) rfl rfl))))))
theorem bi_look_out {w : World} {K : PySem.W.Frag} {mg : Str → Option Value} (c : Facts w K mg) : Binds K c.fd_look_out ["table", "word", "place"] [] := c.F_look_out.bindsN fun _ _ _ _ _ _ us hl => match us, hl with | [_, _, _], _ => rfl
theorem ok_look_out {P : Program} {w : World} {base : Heap} {K : PySem.W.Frag} {mg : Str → Option Value} (c : Facts w K mg) : FnOk P w K mg base (L2.CX P w) 5 c.f_look_out c.fd_look_out ["table", "word", "place"] (spF K mg 3 f_look_out) :=
  fn_ok (N := ["table", "word", "place"]) (n := 0) c.F_look_out sc_look_out rfl fun cdv A outer s H E hr =>
  (jss_cons (js_expr (j_call ((ok_ask c).mono (by decide)) hr (takes_of (by rfl) (by rfl) (by rfl) (by rfl)) (by rfl) c.g_ask c.F_ask.kp (bi_ask c) (js_cons (j_call ((ok_is_table c).mono (by decide)) hr (takes_of (by rfl) (by rfl) (by rfl) (by rfl)) (by rfl) c.g_is_table c.F_is_table.kp (bi_is_table c) (js_cons (j_var (i := 0) rfl (.inl rfl) rfl rfl) js_nil (by rfl)) (lenC lenN) (by rfl) (by rfl) (by rfl)) (js_cons j_int js_nil (by rfl)) (by rfl)) (lenC (lenC lenN)) (by rfl) (by rfl) (by rfl)) rfl)
  (jss_cons (js_expr (j_call ((ok_ask c).mono (by decide)) hr (takes_of (by rfl) (by rfl) (by rfl) (by rfl)) (by rfl) c.g_ask c.F_ask.kp (bi_ask c) (js_cons (j_call ((ok_is_word c).mono (by decide)) hr (takes_of (by rfl) (by rfl) (by rfl) (by rfl)) (by rfl) c.g_is_word c.F_is_word.kp (bi_is_word c) (js_cons (j_var (i := 1) rfl (.inl rfl) rfl rfl) js_nil (by rfl)) (lenC lenN) (by rfl) (by rfl) (by rfl)) (js_cons j_int js_nil (by rfl)) (by rfl)) (lenC (lenC lenN)) (by rfl) (by rfl) (by rfl)) rfl)
  (jss_one (js_expr (j_call ((ok_ask c).mono (by decide)) hr (takes_of (by rfl) (by rfl) (by rfl) (by rfl)) (by rfl) c.g_ask c.F_ask.kp (bi_ask c) (js_cons (j_and (j_call ((ok_is_whole c).mono (by decide)) hr (takes_of (by rfl) (by rfl) (by rfl) (by rfl)) (by rfl) c.g_is_whole c.F_is_whole.kp (bi_is_whole c) (js_cons (j_var (i := 2) rfl (.inl rfl) rfl rfl) js_nil (by rfl)) (lenC lenN) (by rfl) (by rfl) (by rfl)) (j_and (j_cmp (op_neX (hu64 hr)) ne_ok (nomark _) (j_var (i := 2) rfl (.inl rfl) rfl rfl) j_int) (j_one (j_cmp (op_eqX (hu64 hr)) eq_ok (nomark _) (j_call ((ok_word_leads c).mono (by decide)) hr (takes_of (by rfl) (by rfl) (by rfl) (by rfl)) (by rfl) c.g_word_leads c.F_word_leads.kp (bi_word_leads c) (js_cons (j_var (i := 0) rfl (.inl rfl) rfl rfl) (js_cons (j_var (i := 1) rfl (.inl rfl) rfl rfl) js_nil (by rfl)) (by rfl)) (lenC (lenC lenN)) (by rfl) (by rfl) (by rfl)) (j_var (i := 2) rfl (.inl rfl) rfl rfl))))) (js_cons j_int js_nil (by rfl)) (by rfl)) (lenC (lenC lenN)) (by rfl) (by rfl) (by rfl)) rfl))))
theorem bi_put_behind {w : World} {K : PySem.W.Frag} {mg : Str → Option Value} (c : Facts w K mg) : Binds K c.fd_put_behind ["row", "letter"] [] := c.F_put_behind.bindsN fun _ _ _ _ _ _ us hl => match us, hl with | [_, _], _ => rfl
theorem ok_put_behind {P : Program} {w : World} {base : Heap} {K : PySem.W.Frag} {mg : Str → Option Value} (c : Facts w K mg) : FnOk P w K mg base (L2.CX P w) 1 c.f_put_behind c.fd_put_behind ["row", "letter"] (spL K 2 f_put_behind) :=
  fn_okL (N := ["row", "letter", "both"]) (n := 1) c.F_put_behind sc_put_behind rfl fun cdv A outer s H E hr =>
  (jss_one (js_if (jw_or (jb_cmp (op_eqX (hu64 hr)) eq_ok (nomark _) (j_var (i := 0) rfl (.inl rfl) rfl rfl) (j_lst js_nil)) (jw_or1 (jb_cmp (op_neX (hu64 hr)) ne_ok (nomark _) (j_cmp (op_eqX (hu64 hr)) eq_ok (nomark _) (j_ix (j_var (i := 0) rfl (.inl rfl) rfl rfl) (j_un un_neg neg_ok j_int) (fun _ _ => rfl)) j_str) (j_cmp (op_eqX (hu64 hr)) eq_ok (nomark _) (j_var (i := 1) rfl (.inl rfl) rfl rfl) j_str)))).pt (jss_one (js_expr (j_append (j_var (i := 0) rfl (.inl rfl) rfl rfl) (j_var (i := 1) rfl (.inl rfl) rfl rfl) (by rfl) (by rfl) (by rfl) (by rfl) (by rfl)) rfl)) (jss_one (js_if (jb_cmp (op_eqX (hu64 hr)) eq_ok (nomark _) (j_var (i := 1) rfl (.inl rfl) rfl rfl) j_str) (jss_one (js_expr (j_mut0 PySem.F.plainAttrs_list PySem.F.slot_list_pop PySem.F.type_list_pop mt_pop pop_ok (j_var (i := 0) rfl (.inl rfl) rfl rfl) (by rfl) (by rfl)) rfl)) (jss_cons (js_set (ps_set (i := 2) sc_put_behind.nd rfl (.inl rfl) (j_ix (j_glob (by rfl) c.c_THIRDS (by rfl)) (j_op op_modN mod_ok (j_op op_addD add_ok (j_tabIx c.t_POWERS (by rfl) (by rfl) (j_mut0 PySem.F.plainAttrs_list PySem.F.slot_list_pop PySem.F.type_list_pop mt_pop pop_ok (j_var (i := 0) rfl (.inl rfl) rfl rfl) (by rfl) (by rfl)) (fun _ _ => rfl)) (j_tabIx c.t_POWERS (by rfl) (by rfl) (j_var (i := 1) rfl (.inl rfl) rfl rfl) (fun _ _ => rfl))) j_int) (fun _ _ => rfl))) (fun _ _ _ h => h))
  (jss_one (js_expr (j_extend (j_var (i := 0) rfl (.inl rfl) rfl rfl) (j_callTy (call_listU rfl) listU_ok (by rfl) c.b_list (by decide +kernel) (js_cons (j_var (i := 2) rfl (.inl rfl) rfl rfl) js_nil (by rfl)) (by decide) (by rfl) (by rfl) (by rfl)) (by rfl) (by rfl) (by rfl) (by rfl) (by rfl)) rfl)))))))
theorem bi_shortened {w : World} {K : PySem.W.Frag} {mg : Str → Option Value} (c : Facts w K mg) : Binds K c.fd_shortened ["word"] [] := c.F_shortened.bindsN fun _ _ _ _ _ _ us hl => match us, hl with | [_], _ => rfl
theorem ok_shortened {P : Program} {w : World} {base : Heap} {K : PySem.W.Frag} {mg : Str → Option Value} (c : Facts w K mg) : FnOk P w K mg base (L2.CX P w) 2 c.f_shortened c.fd_shortened ["word"] (spF K mg 1 f_shortened) :=
  fn_ok (N := ["word", "row", "letter"]) (n := 2) c.F_shortened sc_shortened rfl fun cdv A outer s H E hr =>
  (jss_cons (js_set (ps_set (i := 1) sc_shortened.nd rfl (.inl rfl) (j_lst js_nil)) (fun _ _ _ h => h))
  (jss_cons (js_for (passes_of rfl) rfl (ji_any (j_var (i := 0) rfl (.inl rfl) rfl rfl)) (pg_name (i := 2) sc_shortened.nd rfl (.inl rfl)) (g_name) (jss_one (js_expr (j_callL ((ok_put_behind c).mono (by decide)) hr (takes_of (by rfl) (by rfl) (by rfl) (by rfl)) (by rfl) c.g_put_behind c.F_put_behind.kp (bi_put_behind c) (js_cons (j_var (i := 1) rfl (.inl rfl) rfl rfl) (js_cons (j_var (i := 2) rfl (.inl rfl) rfl rfl) js_nil (by rfl)) (by rfl)) (lenC (lenC lenN)) (by rfl) (by rfl) (by rfl)) rfl)) (fun _ => rfl))
  (jss_one (js_ret (j_mth VR.tyV_str PySem.F.plainAttrs_str PySem.F.slot_str_join PySem.F.type_str_join mt_join join_ok j_str (js_cons (j_var (i := 1) rfl (.inl rfl) rfl rfl) js_nil (by rfl)) (by rfl) (by rfl) (by rfl) (by rfl) (by rfl))))))
theorem bi_steps_word {w : World} {K : PySem.W.Frag} {mg : Str → Option Value} (c : Facts w K mg) : Binds K c.fd_steps_word ["many"] [] := c.F_steps_word.bindsN fun _ _ _ _ _ _ us hl => match us, hl with | [_], _ => rfl
theorem ok_steps_word {P : Program} {w : World} {base : Heap} {K : PySem.W.Frag} {mg : Str → Option Value} (c : Facts w K mg) : FnOk P w K mg base (L2.CX P w) 1 c.f_steps_word c.fd_steps_word ["many"] (spF K mg 1 f_steps_word) :=
  fn_ok (N := ["many"]) (n := 0) c.F_steps_word sc_steps_word rfl fun cdv A outer s H E hr =>
  (jss_cons (js_if (jb_cmp op_gt cmpI_ok (nomark _) (j_var (i := 0) rfl (.inl rfl) rfl rfl) j_int) (jss_one (js_ret (j_op op_mulS mulS_ok j_str (j_var (i := 0) rfl (.inl rfl) rfl rfl)))) jss_nil)
  (jss_one (js_ret (j_op op_mulS mulS_ok j_str (j_op op_sub sub_ok j_int (j_var (i := 0) rfl (.inl rfl) rfl rfl))))))
theorem bi_steps_of {w : World} {K : PySem.W.Frag} {mg : Str → Option Value} (c : Facts w K mg) : Binds K c.fd_steps_of ["one"] [] := c.F_steps_of.bindsN fun _ _ _ _ _ _ us hl => match us, hl with | [_], _ => rfl
theorem ok_steps_of {P : Program} {w : World} {base : Heap} {K : PySem.W.Frag} {mg : Str → Option Value} (c : Facts w K mg) : FnOk P w K mg base (L2.CX P w) 1 c.f_steps_of c.fd_steps_of ["one"] (spF K mg 1 f_steps_of) :=
  fn_ok (N := ["one", "found", "many", "a", "b", "c", "d", "step"]) (n := 7) c.F_steps_of sc_steps_of rfl fun cdv A outer s H E hr =>
  (jss_cons (js_asg (j_var (i := 0) rfl (.inl rfl) rfl rfl) (pg_seq rfl (pgs_cons (pg_name (i := 3) sc_steps_of.nd rfl (.inl rfl)) (pgs_cons (pg_name (i := 4) sc_steps_of.nd rfl (.inl rfl)) (pgs_cons (pg_name (i := 5) sc_steps_of.nd rfl (.inl rfl)) (pgs_cons (pg_name (i := 6) sc_steps_of.nd rfl (.inl rfl)) pgs_nil)))) rfl rfl) (g_seq (gs_cons (g_name) (gs_cons (g_name) (gs_cons (g_name) (gs_cons (g_name) gs_nil))))) rfl rfl rfl)
  (jss_cons (js_set (ps_set (i := 1) sc_steps_of.nd rfl (.inl rfl) (j_lst js_nil)) (fun _ _ _ h => h))
  (jss_cons (js_set (ps_set (i := 2) sc_steps_of.nd rfl (.inl rfl) j_int) (fun _ _ _ h => h))
  (jss_cons (js_whileC (passes_of rfl) (jb_cmp (op_neX (hu64 hr)) ne_ok (nomark _) (j_var (i := 5) rfl (.inl rfl) rfl rfl) j_int) (jss_cons (js_set (ps_set (i := 7) sc_steps_of.nd rfl (.inl rfl) (j_op op_fdivZ div_ok (j_var (i := 3) rfl (.inl rfl) rfl rfl) (j_var (i := 5) rfl (.inl rfl) rfl rfl))) (fun _ _ _ h => h))
  (jss_cons (js_expr (j_append (j_var (i := 1) rfl (.inl rfl) rfl rfl) (j_var (i := 7) rfl (.inl rfl) rfl rfl) (by rfl) (by rfl) (by rfl) (by rfl) (by rfl)) rfl)
  (jss_cons (js_aug (i := 2) sc_steps_of.nd rfl (.inl rfl) (j_op op_addD add_ok (j_op op_mulW mulI_ok j_int (j_callB call_abs abs_ok (by rfl) c.b_abs (by decide +kernel) (js_cons (j_var (i := 7) rfl (.inl rfl) rfl rfl) js_nil (by rfl)) (by decide) (by rfl) (by rfl) (by rfl))) j_int) ip_add ipAdd_ok (.inr rfl))
  (jss_cons (js_if (jb_cmp op_gt cmpI_ok (nomark _) (j_var (i := 2) rfl (.inl rfl) rfl rfl) (j_glob (by rfl) c.c_MOST_RAW (by rfl))) (jss_one (js_raise rfl (takes_of (by rfl) (by rfl) (by rfl) (by rfl)) c.r_TooLong (by rfl) (by rfl))) jss_nil)
  (jss_one (js_asg (j_tup (js_cons (j_op op_sub sub_ok j_int (j_var (i := 5) rfl (.inl rfl) rfl rfl)) (js_cons (j_op op_sub sub_ok j_int (j_var (i := 6) rfl (.inl rfl) rfl rfl)) (js_cons (j_op op_sub sub_ok (j_var (i := 3) rfl (.inl rfl) rfl rfl) (j_op op_mulW mulI_ok (j_var (i := 7) rfl (.inl rfl) rfl rfl) (j_var (i := 5) rfl (.inl rfl) rfl rfl))) (js_cons (j_op op_sub sub_ok (j_var (i := 4) rfl (.inl rfl) rfl rfl) (j_op op_mulW mulI_ok (j_var (i := 7) rfl (.inl rfl) rfl rfl) (j_var (i := 6) rfl (.inl rfl) rfl rfl))) js_nil (by rfl)) (by rfl)) (by rfl)) (by rfl))) (pg_seq rfl (pgs_cons (pg_name (i := 3) sc_steps_of.nd rfl (.inl rfl)) (pgs_cons (pg_name (i := 4) sc_steps_of.nd rfl (.inl rfl)) (pgs_cons (pg_name (i := 5) sc_steps_of.nd rfl (.inl rfl)) (pgs_cons (pg_name (i := 6) sc_steps_of.nd rfl (.inl rfl)) pgs_nil)))) rfl rfl) (g_seq (gs_cons (g_name) (gs_cons (g_name) (gs_cons (g_name) (gs_cons (g_name) gs_nil))))) rfl rfl rfl)))))))
  (jss_cons (js_expr (j_append (j_var (i := 1) rfl (.inl rfl) rfl rfl) (j_op op_mulW mulI_ok (j_var (i := 4) rfl (.inl rfl) rfl rfl) (j_var (i := 6) rfl (.inl rfl) rfl rfl)) (by rfl) (by rfl) (by rfl) (by rfl) (by rfl)) rfl)
  (jss_cons (js_if (jb_cmp op_gt cmpI_ok (nomark _) (j_op op_addD add_ok (j_var (i := 2) rfl (.inl rfl) rfl rfl) (j_op op_mulW mulI_ok j_int (j_callB call_abs abs_ok (by rfl) c.b_abs (by decide +kernel) (js_cons (j_var (i := 4) rfl (.inl rfl) rfl rfl) js_nil (by rfl)) (by decide) (by rfl) (by rfl) (by rfl)))) (j_glob (by rfl) c.c_MOST_RAW (by rfl))) (jss_one (js_raise rfl (takes_of (by rfl) (by rfl) (by rfl) (by rfl)) c.r_TooLong (by rfl) (by rfl))) jss_nil)
  (jss_one (js_ret (j_var (i := 1) rfl (.inl rfl) rfl rfl)))))))))
theorem bi_word_of {w : World} {K : PySem.W.Frag} {mg : Str → Option Value} (c : Facts w K mg) : Binds K c.fd_word_of ["one"] [] := c.F_word_of.bindsN fun _ _ _ _ _ _ us hl => match us, hl with | [_], _ => rfl
theorem ok_word_of {P : Program} {w : World} {base : Heap} {K : PySem.W.Frag} {mg : Str → Option Value} (c : Facts w K mg) : FnOk P w K mg base (L2.CX P w) 3 c.f_word_of c.fd_word_of ["one"] (spF K mg 1 f_word_of) :=
  fn_ok (N := ["one", "word", "step"]) (n := 2) c.F_word_of sc_word_of rfl fun cdv A outer s H E hr =>
  (jss_cons (js_set (ps_set (i := 1) sc_word_of.nd rfl (.inl rfl) (j_call ((ok_shortened c).mono (by decide)) hr (takes_of (by rfl) (by rfl) (by rfl) (by rfl)) (by rfl) c.g_shortened c.F_shortened.kp (bi_shortened c) (js_cons (j_mth VR.tyV_str PySem.F.plainAttrs_str PySem.F.slot_str_join PySem.F.type_str_join mt_join join_ok j_str (js_cons (j_lc (own := [("step", 2)]) rfl sc_word_of.nd (ji_any (j_call ((ok_steps_of c).mono (by decide)) hr (takes_of (by rfl) (by rfl) (by rfl) (by rfl)) (by rfl) c.g_steps_of c.F_steps_of.kp (bi_steps_of c) (js_cons (j_var (i := 0) rfl (.inl rfl) rfl rfl) js_nil (by rfl)) (lenC lenN) (by rfl) (by rfl) (by rfl))) (blkOk_by (N := ["one", "word", "step"]) (sc := (defScope s_word_of)) (by decide +kernel)) (gp_name (by decide)) (fun _ _ _ _ _ => (pg_name (i := 2) sc_word_of.nd rfl (.inl rfl))) (fun _ _ _ _ _ => jts_nil) (fun _ _ _ _ _ => (j_call ((ok_steps_word c).mono (by decide)) hr takes0 (by rfl) c.g_steps_word c.F_steps_word.kp (bi_steps_word c) (js_cons (j_var (i := 2) rfl (.inl rfl) rfl rfl) js_nil (by rfl)) (lenC lenN) (by rfl) (by rfl) (by rfl))) (fun _ => rfl)) js_nil (by rfl)) (by rfl) (by rfl) (by rfl) (by rfl) (by rfl)) js_nil (by rfl)) (lenC lenN) (by rfl) (by rfl) (by rfl))) (fun _ _ _ h => h))
  (jss_cons (js_if (jb_cmp op_gt cmpI_ok (nomark _) (j_callB call_len len_ok (by rfl) c.b_len (by decide +kernel) (js_cons (j_var (i := 1) rfl (.inl rfl) rfl rfl) js_nil (by rfl)) (by decide) (by rfl) (by rfl) (by rfl)) (j_glob (by rfl) c.c_MOST_LETTERS (by rfl))) (jss_one (js_raise rfl (takes_of (by rfl) (by rfl) (by rfl) (by rfl)) c.r_TooLong (by rfl) (by rfl))) jss_nil)
  (jss_one (js_ret (j_var (i := 1) rfl (.inl rfl) rfl rfl)))))
theorem bi_short_word {w : World} {K : PySem.W.Frag} {mg : Str → Option Value} (c : Facts w K mg) : Binds K c.fd_short_word ["one"] [] := c.F_short_word.bindsN fun _ _ _ _ _ _ us hl => match us, hl with | [_], _ => rfl
theorem ok_short_word {P : Program} {w : World} {base : Heap} {K : PySem.W.Frag} {mg : Str → Option Value} (c : Facts w K mg) : FnOk P w K mg base (L2.CX P w) 4 c.f_short_word c.fd_short_word ["one"] (spF K mg 1 f_short_word) :=
  fn_ok (N := ["one"]) (n := 0) c.F_short_word sc_short_word rfl fun cdv A outer s H E hr =>
  (jss_one (js_tryO rfl rfl (by rfl) (by rfl) c.m_TooLong (takes_of (by rfl) (by rfl) (by rfl) (by rfl)) (.cons c.e_NoFan_TooLong c.m_NoFan (.cons c.e_NoPaper_TooLong c.m_NoPaper (.cons c.e_NoTurning_TooLong c.m_NoTurning (.cons c.e_TooLong_TooLong c.m_TooLong .nil)))) (fun W1 pn1 xe1 tk1 po1 => (jss_one (js_ret (j_call ((ok_word_of c).mono (by decide)) hr tk1 (by rfl) c.g_word_of c.F_word_of.kp (bi_word_of c) (js_cons (j_var (i := 0) rfl (.inl rfl) rfl rfl) js_nil (by rfl)) (lenC lenN) (by rfl) (by rfl) (by rfl))))) (fun a oe pn => (jss_one (js_ret j_non)))))
theorem bi_keeps {w : World} {K : PySem.W.Frag} {mg : Str → Option Value} (c : Facts w K mg) : Binds K c.fd_keeps ["table", "one"] [] := c.F_keeps.bindsN fun _ _ _ _ _ _ us hl => match us, hl with | [_, _], _ => rfl
theorem ok_keeps {P : Program} {w : World} {base : Heap} {K : PySem.W.Frag} {mg : Str → Option Value} (c : Facts w K mg) : FnOk P w K mg base (L2.CX P w) 5 c.f_keeps c.fd_keeps ["table", "one"] (spF K mg 2 f_keeps) :=
  fn_ok (N := ["table", "one", "word"]) (n := 1) c.F_keeps sc_keeps rfl fun cdv A outer s H E hr =>
  (jss_cons (js_set (ps_set (i := 2) sc_keeps.nd rfl (.inl rfl) (j_call ((ok_short_word c).mono (by decide)) hr (takes_of (by rfl) (by rfl) (by rfl) (by rfl)) (by rfl) c.g_short_word c.F_short_word.kp (bi_short_word c) (js_cons (j_var (i := 1) rfl (.inl rfl) rfl rfl) js_nil (by rfl)) (lenC lenN) (by rfl) (by rfl) (by rfl))) (fun _ _ _ h => h))
  (jss_one (js_ret (j_and (j_cmp op_notN isNot_ok (nomark _) (j_var (i := 2) rfl (.inl rfl) rfl rfl) j_non) (j_one (j_cmp (op_eqX (hu64 hr)) eq_ok (nomark _) (j_call ((ok_word_leads c).mono (by decide)) hr (takes_of (by rfl) (by rfl) (by rfl) (by rfl)) (by rfl) c.g_word_leads c.F_word_leads.kp (bi_word_leads c) (js_cons (j_var (i := 0) rfl (.inl rfl) rfl rfl) (js_cons (j_var (i := 2) rfl (.inl rfl) rfl rfl) js_nil (by rfl)) (by rfl)) (lenC (lenC lenN)) (by rfl) (by rfl) (by rfl)) j_int))))))
theorem bi_look_same {w : World} {K : PySem.W.Frag} {mg : Str → Option Value} (c : Facts w K mg) : Binds K c.fd_look_same ["fan", "table"] [] := c.F_look_same.bindsN fun _ _ _ _ _ _ us hl => match us, hl with | [_, _], _ => rfl
theorem ok_look_same {P : Program} {w : World} {base : Heap} {K : PySem.W.Frag} {mg : Str → Option Value} (c : Facts w K mg) : FnOk P w K mg base (L2.CX P w) 7 c.f_look_same c.fd_look_same ["fan", "table"] (spF K mg 2 f_look_same) :=
  fn_ok (N := ["fan", "table", "gap"]) (n := 1) c.F_look_same sc_look_same rfl fun cdv A outer s H E hr =>
  (jss_cons (js_expr (j_call ((ok_ask c).mono (by decide)) hr (takes_of (by rfl) (by rfl) (by rfl) (by rfl)) (by rfl) c.g_ask c.F_ask.kp (bi_ask c) (js_cons (j_call ((ok_is_fan c).mono (by decide)) hr (takes_of (by rfl) (by rfl) (by rfl) (by rfl)) (by rfl) c.g_is_fan c.F_is_fan.kp (bi_is_fan c) (js_cons (j_var (i := 0) rfl (.inr (.inl rfl)) rfl rfl) js_nil (by rfl)) (lenC lenN) (by rfl) (by rfl) (by rfl)) (js_cons j_int js_nil (by rfl)) (by rfl)) (lenC (lenC lenN)) (by rfl) (by rfl) (by rfl)) rfl)
  (jss_cons (js_expr (j_call ((ok_ask c).mono (by decide)) hr (takes_of (by rfl) (by rfl) (by rfl) (by rfl)) (by rfl) c.g_ask c.F_ask.kp (bi_ask c) (js_cons (j_call ((ok_is_table c).mono (by decide)) hr (takes_of (by rfl) (by rfl) (by rfl) (by rfl)) (by rfl) c.g_is_table c.F_is_table.kp (bi_is_table c) (js_cons (j_var (i := 1) rfl (.inr (.inl rfl)) rfl rfl) js_nil (by rfl)) (lenC lenN) (by rfl) (by rfl) (by rfl)) (js_cons j_int js_nil (by rfl)) (by rfl)) (lenC (lenC lenN)) (by rfl) (by rfl) (by rfl)) rfl)
  (jss_cons (js_expr (j_call ((ok_ask c).mono (by decide)) hr (takes_of (by rfl) (by rfl) (by rfl) (by rfl)) (by rfl) c.g_ask c.F_ask.kp (bi_ask c) (js_cons (j_cmp (op_eqX (hu64 hr)) eq_ok (nomark _) (j_call ((ok_many_places c).mono (by decide)) hr (takes_of (by rfl) (by rfl) (by rfl) (by rfl)) (by rfl) c.g_many_places c.F_many_places.kp (bi_many_places c) (js_cons (j_var (i := 0) rfl (.inr (.inl rfl)) rfl rfl) js_nil (by rfl)) (lenC lenN) (by rfl) (by rfl) (by rfl)) (j_callB call_len len_ok (by rfl) c.b_len (by decide +kernel) (js_cons (j_ix (j_var (i := 1) rfl (.inr (.inl rfl)) rfl rfl) j_int (fun _ _ => rfl)) js_nil (by rfl)) (by decide) (by rfl) (by rfl) (by rfl))) (js_cons j_int js_nil (by rfl)) (by rfl)) (lenC (lenC lenN)) (by rfl) (by rfl) (by rfl)) rfl)
  (jss_one (js_expr (j_call ((ok_ask c).mono (by decide)) hr (takes_of (by rfl) (by rfl) (by rfl) (by rfl)) (by rfl) c.g_ask c.F_ask.kp (bi_ask c) (js_cons (j_callB (cr_all rfl) all_ok (by rfl) c.b_all (by decide +kernel) (js_cons (j_lc (own := [("gap", 2)]) rfl sc_look_same.nd (ji_range1 (by rfl) c.b_range (js_cons (j_callB call_len len_ok (by rfl) c.b_len (by decide +kernel) (js_cons (j_ix (j_var (i := 0) rfl (.inr (.inl rfl)) rfl rfl) j_int (fun _ _ => rfl)) js_nil (by rfl)) (by decide) (by rfl) (by rfl) (by rfl)) js_nil (by rfl)) (by rfl)) (blkOk_by (N := ["fan", "table", "gap"]) (sc := (defScope s_look_same)) (by decide +kernel)) (gp_name (by decide)) (fun _ _ _ _ _ => (pg_name (i := 2) sc_look_same.nd rfl (.inl rfl))) (fun _ _ _ _ _ => jts_nil) (fun _ _ _ _ _ => (j_call ((ok_keeps c).mono (by decide)) hr takes0 (by rfl) c.g_keeps c.F_keeps.kp (bi_keeps c) (js_cons (j_var (i := 1) rfl (by first | exact Or.inr (Or.inl rfl) | exact Or.inr (Or.inr rfl) | exact Or.inl rfl) rfl rfl) (js_cons (j_call ((ok_glue c).mono (by decide)) hr takes0 (by rfl) c.g_glue c.F_glue.kp (bi_glue c) (js_cons (j_var (i := 0) rfl (by first | exact Or.inr (Or.inl rfl) | exact Or.inr (Or.inr rfl) | exact Or.inl rfl) rfl rfl) (js_cons (j_var (i := 2) rfl (.inl rfl) rfl rfl) js_nil (by rfl)) (by rfl)) (lenC (lenC lenN)) (by rfl) (by rfl) (by rfl)) js_nil (by rfl)) (by rfl)) (lenC (lenC lenN)) (by rfl) (by rfl) (by rfl))) (fun _ => rfl)) js_nil (by rfl)) (by decide) (by rfl) (by rfl) (by rfl)) (js_cons j_int js_nil (by rfl)) (by rfl)) (lenC (lenC lenN)) (by rfl) (by rfl) (by rfl)) rfl)))))
theorem bi_is_nothing_by {w : World} {K : PySem.W.Frag} {mg : Str → Option Value} (c : Facts w K mg) : Binds K c.fd_is_nothing_by ["one", "number"] [] := c.F_is_nothing_by.bindsN fun _ _ _ _ _ _ us hl => match us, hl with | [_, _], _ => rfl
theorem ok_is_nothing_by {P : Program} {w : World} {base : Heap} {K : PySem.W.Frag} {mg : Str → Option Value} (c : Facts w K mg) : FnOk P w K mg base (L2.CX P w) 1 c.f_is_nothing_by c.fd_is_nothing_by ["one", "number"] (spF K mg 2 f_is_nothing_by) :=
  fn_ok (N := ["one", "number", "a", "b", "c", "d"]) (n := 4) c.F_is_nothing_by sc_is_nothing_by rfl fun cdv A outer s H E hr =>
  (jss_cons (js_asg (j_var (i := 0) rfl (.inl rfl) rfl rfl) (pg_seq rfl (pgs_cons (pg_name (i := 2) sc_is_nothing_by.nd rfl (.inl rfl)) (pgs_cons (pg_name (i := 3) sc_is_nothing_by.nd rfl (.inl rfl)) (pgs_cons (pg_name (i := 4) sc_is_nothing_by.nd rfl (.inl rfl)) (pgs_cons (pg_name (i := 5) sc_is_nothing_by.nd rfl (.inl rfl)) pgs_nil)))) rfl rfl) (g_seq (gs_cons (g_name) (gs_cons (g_name) (gs_cons (g_name) (gs_cons (g_name) gs_nil))))) rfl rfl rfl)
  (jss_cons (js_if (jw_or (jb_cmp (op_neX (hu64 hr)) ne_ok (nomark _) (j_op op_modN mod_ok (j_var (i := 3) rfl (.inl rfl) rfl rfl) (j_var (i := 1) rfl (.inl rfl) rfl rfl)) j_int) (jw_or1 (jb_cmp (op_neX (hu64 hr)) ne_ok (nomark _) (j_op op_modN mod_ok (j_var (i := 4) rfl (.inl rfl) rfl rfl) (j_var (i := 1) rfl (.inl rfl) rfl rfl)) j_int))).pt (jss_one (js_ret j_bl)) jss_nil)
  (jss_one (js_ret (j_or (j_and (j_cmp (op_eqX (hu64 hr)) eq_ok (nomark _) (j_op op_modN mod_ok (j_op op_sub sub_ok (j_var (i := 2) rfl (.inl rfl) rfl rfl) j_int) (j_var (i := 1) rfl (.inl rfl) rfl rfl)) j_int) (j_one (j_cmp (op_eqX (hu64 hr)) eq_ok (nomark _) (j_op op_modN mod_ok (j_op op_sub sub_ok (j_var (i := 5) rfl (.inl rfl) rfl rfl) j_int) (j_var (i := 1) rfl (.inl rfl) rfl rfl)) j_int))) (j_one (j_and (j_cmp (op_eqX (hu64 hr)) eq_ok (nomark _) (j_op op_modN mod_ok (j_op op_addD add_ok (j_var (i := 2) rfl (.inl rfl) rfl rfl) j_int) (j_var (i := 1) rfl (.inl rfl) rfl rfl)) j_int) (j_one (j_cmp (op_eqX (hu64 hr)) eq_ok (nomark _) (j_op op_modN mod_ok (j_op op_addD add_ok (j_var (i := 5) rfl (.inl rfl) rfl rfl) j_int) (j_var (i := 1) rfl (.inl rfl) rfl rfl)) j_int)))))))))
theorem bi_look_leaver {w : World} {K : PySem.W.Frag} {mg : Str → Option Value} (c : Facts w K mg) : Binds K c.fd_look_leaver ["table", "number", "one"] [] := c.F_look_leaver.bindsN fun _ _ _ _ _ _ us hl => match us, hl with | [_, _, _], _ => rfl
theorem ok_look_leaver {P : Program} {w : World} {base : Heap} {K : PySem.W.Frag} {mg : Str → Option Value} (c : Facts w K mg) : FnOk P w K mg base (L2.CX P w) 6 c.f_look_leaver c.fd_look_leaver ["table", "number", "one"] (spF K mg 3 f_look_leaver) :=
  fn_ok (N := ["table", "number", "one"]) (n := 0) c.F_look_leaver sc_look_leaver rfl fun cdv A outer s H E hr =>
  (jss_cons (js_expr (j_call ((ok_ask c).mono (by decide)) hr (takes_of (by rfl) (by rfl) (by rfl) (by rfl)) (by rfl) c.g_ask c.F_ask.kp (bi_ask c) (js_cons (j_call ((ok_is_table c).mono (by decide)) hr (takes_of (by rfl) (by rfl) (by rfl) (by rfl)) (by rfl) c.g_is_table c.F_is_table.kp (bi_is_table c) (js_cons (j_var (i := 0) rfl (.inl rfl) rfl rfl) js_nil (by rfl)) (lenC lenN) (by rfl) (by rfl) (by rfl)) (js_cons j_int js_nil (by rfl)) (by rfl)) (lenC (lenC lenN)) (by rfl) (by rfl) (by rfl)) rfl)
  (jss_cons (js_expr (j_call ((ok_ask c).mono (by decide)) hr (takes_of (by rfl) (by rfl) (by rfl) (by rfl)) (by rfl) c.g_ask c.F_ask.kp (bi_ask c) (js_cons (j_and (j_call ((ok_is_whole c).mono (by decide)) hr (takes_of (by rfl) (by rfl) (by rfl) (by rfl)) (by rfl) c.g_is_whole c.F_is_whole.kp (bi_is_whole c) (js_cons (j_var (i := 1) rfl (.inl rfl) rfl rfl) js_nil (by rfl)) (lenC lenN) (by rfl) (by rfl) (by rfl)) (j_one (j_chain op_le op_le j_int (j_var (i := 1) rfl (.inl rfl) rfl rfl) (j_glob (by rfl) c.c_MOST_RESTS (by rfl)) (by with_unfolding_all rfl)))) (js_cons j_int js_nil (by rfl)) (by rfl)) (lenC (lenC lenN)) (by rfl) (by rfl) (by rfl)) rfl)
  (jss_cons (js_expr (j_call ((ok_ask c).mono (by decide)) hr (takes_of (by rfl) (by rfl) (by rfl) (by rfl)) (by rfl) c.g_ask c.F_ask.kp (bi_ask c) (js_cons (j_and (j_call ((ok_is_turning c).mono (by decide)) hr (takes_of (by rfl) (by rfl) (by rfl) (by rfl)) (by rfl) c.g_is_turning c.F_is_turning.kp (bi_is_turning c) (js_cons (j_var (i := 2) rfl (.inl rfl) rfl rfl) js_nil (by rfl)) (lenC lenN) (by rfl) (by rfl) (by rfl)) (j_and (j_call ((ok_is_nothing_by c).mono (by decide)) hr (takes_of (by rfl) (by rfl) (by rfl) (by rfl)) (by rfl) c.g_is_nothing_by c.F_is_nothing_by.kp (bi_is_nothing_by c) (js_cons (j_var (i := 2) rfl (.inl rfl) rfl rfl) (js_cons (j_var (i := 1) rfl (.inl rfl) rfl rfl) js_nil (by rfl)) (by rfl)) (lenC (lenC lenN)) (by rfl) (by rfl) (by rfl)) (j_one (j_cmp op_notN isNot_ok (nomark _) (j_call ((ok_short_word c).mono (by decide)) hr (takes_of (by rfl) (by rfl) (by rfl) (by rfl)) (by rfl) c.g_short_word c.F_short_word.kp (bi_short_word c) (js_cons (j_var (i := 2) rfl (.inl rfl) rfl rfl) js_nil (by rfl)) (lenC lenN) (by rfl) (by rfl) (by rfl)) j_non)))) (js_cons j_int js_nil (by rfl)) (by rfl)) (lenC (lenC lenN)) (by rfl) (by rfl) (by rfl)) rfl)
  (jss_one (js_expr (j_call ((ok_ask c).mono (by decide)) hr (takes_of (by rfl) (by rfl) (by rfl) (by rfl)) (by rfl) c.g_ask c.F_ask.kp (bi_ask c) (js_cons (j_not (j_call ((ok_keeps c).mono (by decide)) hr (takes_of (by rfl) (by rfl) (by rfl) (by rfl)) (by rfl) c.g_keeps c.F_keeps.kp (bi_keeps c) (js_cons (j_var (i := 0) rfl (.inl rfl) rfl rfl) (js_cons (j_var (i := 2) rfl (.inl rfl) rfl rfl) js_nil (by rfl)) (by rfl)) (lenC (lenC lenN)) (by rfl) (by rfl) (by rfl))) (js_cons j_int js_nil (by rfl)) (by rfl)) (lenC (lenC lenN)) (by rfl) (by rfl) (by rfl)) rfl)))))
theorem bi_looked {w : World} {K : PySem.W.Frag} {mg : Str → Option Value} (c : Facts w K mg) : Binds K c.fd_looked ["thing"] [] := c.F_looked.bindsN fun _ _ _ _ _ _ us hl => match us, hl with | [_], _ => rfl
theorem ok_looked {P : Program} {w : World} {base : Heap} {K : PySem.W.Frag} {mg : Str → Option Value} (c : Facts w K mg) : FnOk P w K mg base (L2.CX P w) 8 c.f_looked c.fd_looked ["thing"] (spF K mg 1 f_looked) :=
  fn_ok (N := ["thing", "kind"]) (n := 1) c.F_looked sc_looked rfl fun cdv A outer s H E hr =>
  (jss_cons (js_expr (j_call ((ok_ask c).mono (by decide)) hr (takes_of (by rfl) (by rfl) (by rfl) (by rfl)) (by rfl) c.g_ask c.F_ask.kp (bi_ask c) (js_cons (j_and (j_isi kit_tup (by rfl) c.b_isinstance (by rfl) c.b_tuple (by decide +kernel) (j_var (i := 0) rfl (.inl rfl) rfl rfl) (by decide) (by rfl) (by rfl) (by rfl) (by rfl)) (j_and (j_cmp op_gt cmpI_ok (nomark _) (j_callB call_len len_ok (by rfl) c.b_len (by decide +kernel) (js_cons (j_var (i := 0) rfl (.inl rfl) rfl rfl) js_nil (by rfl)) (by decide) (by rfl) (by rfl) (by rfl)) j_int) (j_one (j_isi kit_str (by rfl) c.b_isinstance (by rfl) c.b_str (by decide +kernel) (j_ix (j_var (i := 0) rfl (.inl rfl) rfl rfl) j_int (fun _ _ => rfl)) (by decide) (by rfl) (by rfl) (by rfl) (by rfl))))) (js_cons j_int js_nil (by rfl)) (by rfl)) (lenC (lenC lenN)) (by rfl) (by rfl) (by rfl)) rfl)
  (jss_cons (js_set (ps_set (i := 1) sc_looked.nd rfl (.inl rfl) (j_ix (j_var (i := 0) rfl (.inl rfl) rfl rfl) j_int (fun _ _ => rfl))) (fun _ _ _ h => h))
  (jss_cons (js_expr (j_call ((ok_ask c).mono (by decide)) hr (takes_of (by rfl) (by rfl) (by rfl) (by rfl)) (by rfl) c.g_ask c.F_ask.kp (bi_ask c) (js_cons (j_and (j_tabIn c.t_SIZES (by rfl) (by rfl) (j_var (i := 1) rfl (.inl rfl) rfl rfl) (by with_unfolding_all rfl)) (j_one (j_cmp (op_eqX (hu64 hr)) eq_ok (nomark _) (j_callB call_len len_ok (by rfl) c.b_len (by decide +kernel) (js_cons (j_var (i := 0) rfl (.inl rfl) rfl rfl) js_nil (by rfl)) (by decide) (by rfl) (by rfl) (by rfl)) (j_tabIx c.t_SIZES (by rfl) (by rfl) (j_var (i := 1) rfl (.inl rfl) rfl rfl) (fun _ _ => rfl))))) (js_cons j_int js_nil (by rfl)) (by rfl)) (lenC (lenC lenN)) (by rfl) (by rfl) (by rfl)) rfl)
  (jss_one (js_if (jb_cmp (op_eqX (hu64 hr)) eq_ok (nomark _) (j_var (i := 1) rfl (.inl rfl) rfl rfl) j_str) (jss_one (js_expr (j_call ((ok_look_in c).mono (by decide)) hr (takes_of (by rfl) (by rfl) (by rfl) (by rfl)) (by rfl) c.g_look_in c.F_look_in.kp (bi_look_in c) (js_cons (j_ix (j_var (i := 0) rfl (.inl rfl) rfl rfl) j_int (fun _ _ => rfl)) (js_cons (j_ix (j_var (i := 0) rfl (.inl rfl) rfl rfl) j_int (fun _ _ => rfl)) (js_cons (j_ix (j_var (i := 0) rfl (.inl rfl) rfl rfl) j_int (fun _ _ => rfl)) js_nil (by rfl)) (by rfl)) (by rfl)) (lenC (lenC (lenC lenN))) (by rfl) (by rfl) (by rfl)) rfl)) (jss_one (js_if (jb_cmp (op_eqX (hu64 hr)) eq_ok (nomark _) (j_var (i := 1) rfl (.inl rfl) rfl rfl) j_str) (jss_one (js_expr (j_call ((ok_look_out c).mono (by decide)) hr (takes_of (by rfl) (by rfl) (by rfl) (by rfl)) (by rfl) c.g_look_out c.F_look_out.kp (bi_look_out c) (js_cons (j_ix (j_var (i := 0) rfl (.inl rfl) rfl rfl) j_int (fun _ _ => rfl)) (js_cons (j_ix (j_var (i := 0) rfl (.inl rfl) rfl rfl) j_int (fun _ _ => rfl)) (js_cons (j_ix (j_var (i := 0) rfl (.inl rfl) rfl rfl) j_int (fun _ _ => rfl)) js_nil (by rfl)) (by rfl)) (by rfl)) (lenC (lenC (lenC lenN))) (by rfl) (by rfl) (by rfl)) rfl)) (jss_one (js_if (jb_cmp (op_eqX (hu64 hr)) eq_ok (nomark _) (j_var (i := 1) rfl (.inl rfl) rfl rfl) j_str) (jss_one (js_expr (j_call ((ok_look_same c).mono (by decide)) hr (takes_of (by rfl) (by rfl) (by rfl) (by rfl)) (by rfl) c.g_look_same c.F_look_same.kp (bi_look_same c) (js_cons (j_ix (j_var (i := 0) rfl (.inl rfl) rfl rfl) j_int (fun _ _ => rfl)) (js_cons (j_ix (j_var (i := 0) rfl (.inl rfl) rfl rfl) j_int (fun _ _ => rfl)) js_nil (by rfl)) (by rfl)) (lenC (lenC lenN)) (by rfl) (by rfl) (by rfl)) rfl)) (jss_one (js_expr (j_call ((ok_look_leaver c).mono (by decide)) hr (takes_of (by rfl) (by rfl) (by rfl) (by rfl)) (by rfl) c.g_look_leaver c.F_look_leaver.kp (bi_look_leaver c) (js_cons (j_ix (j_var (i := 0) rfl (.inl rfl) rfl rfl) j_int (fun _ _ => rfl)) (js_cons (j_ix (j_var (i := 0) rfl (.inl rfl) rfl rfl) j_int (fun _ _ => rfl)) (js_cons (j_ix (j_var (i := 0) rfl (.inl rfl) rfl rfl) j_int (fun _ _ => rfl)) js_nil (by rfl)) (by rfl)) (by rfl)) (lenC (lenC (lenC lenN))) (by rfl) (by rfl) (by rfl)) rfl)))))))))))
theorem bi__law_failed {w : World} {K : PySem.W.Frag} {mg : Str → Option Value} (c : Facts w K mg) : Binds K c.fd__law_failed ["_law_thing_here"] [] := c.F__law_failed.bindsN fun _ _ _ _ _ _ us hl => match us, hl with | [_], _ => rfl
theorem ok__law_failed {P : Program} {w : World} {base : Heap} {K : PySem.W.Frag} {mg : Str → Option Value} (c : Facts w K mg) : FnOk P w K mg base (L2.CX P w) 9 c.f__law_failed c.fd__law_failed ["_law_thing_here"] (spF K mg 1 f__law_failed) :=
  fn_ok (N := ["_law_thing_here", "e"]) (n := 1) c.F__law_failed sc__law_failed rfl fun cdv A outer s H E hr =>
  (jss_cons (js_tryG (i := 1) (f1 := "at") rfl rfl sc__law_failed.nd rfl rfl (by rfl) (by rfl) c.m_NoPaper (takes_of (by rfl) (by rfl) (by rfl) (by rfl)) (.cons c.e_NoFan_NoPaper c.m_NoFan (.cons c.e_NoPaper_NoPaper c.m_NoPaper (.cons c.e_NoTurning_NoPaper c.m_NoTurning (.cons c.e_TooLong_NoPaper c.m_TooLong .nil)))) (by decide) (fun W1 pn1 xe1 tk1 po1 => (jss_one (js_if (jb_cmp op_notN isNot_ok (nomark _) (j_call ((ok_looked c).mono (by decide)) hr tk1 (by rfl) c.g_looked c.F_looked.kp (bi_looked c) (js_cons (j_var (i := 0) rfl (.inl rfl) rfl rfl) js_nil (by rfl)) (lenC lenN) (by rfl) (by rfl) (by rfl)) j_non) (jss_one (js_ret (j_un un_neg neg_ok j_int))) jss_nil))) (fun a oe pn dd fs v1 hz hv k1 => suiteR1 (jcw_and Ga.stb (jct_val (jc_isE (i := 1) Ga.is c.x_NoPaper hz hv rfl (.inl rfl) rfl rfl (by rfl) c.b_isinstance (hT_own (by rfl) c.m_FanError (by rfl)) (.own _) c.k_NoPaper_FanError (by rfl) (by rfl) (by rfl)) (fun _ => rfl)) (jcw_and Ga.stb (jct_val (jc_isE (i := 1) Ga.is c.x_NoPaper hz hv rfl (.inl rfl) rfl rfl (by rfl) c.b_isinstance (hT_ty (by rfl) c.b_ValueError (by decide +kernel) (by decide) (by rfl)) (.ty _) c.k_NoPaper_ValueError (by rfl) (by rfl) (by rfl)) (fun _ => rfl)) (jcw_and1 (jct_not (jct_val (jc_isET (i := 1) Ga.is c.x_NoPaper hz hv rfl (.inl rfl) rfl rfl (by rfl) c.b_isinstance (hT_cons (hT_own (by rfl) c.m_NoFan (by rfl)) (hT_cons (hT_own (by rfl) c.m_NoTurning (by rfl)) (hT_cons (hT_own (by rfl) c.m_NoText (by rfl)) hT_nil (fun _ => rfl)) (fun _ => rfl)) (fun _ => rfl)) (by simp) (.cons (.own _) (.cons (.own _) (.cons (.own _) .nil))) c.k_NoPaper_any_NoFan_NoTurning_NoText (by rfl) (by rfl) (by rfl)) (fun _ => rfl)))))).pt rfl (jc_fld (i := 1) (fun _ _ h => h) c.xf_NoPaper c.n_NoPaper_at hz hv rfl (.inl rfl) rfl rfl k1 (by rfl))))
  (jss_one (js_ret j_int)))
theorem bi_law {w : World} {K : PySem.W.Frag} {mg : Str → Option Value} (c : Facts w K mg) : Binds K c.fd_law ["_law_script"] [] := c.F_law.bindsN fun _ _ _ _ _ _ us hl => match us, hl with | [_], _ => rfl
theorem ok_law {P : Program} {w : World} {base : Heap} {K : PySem.W.Frag} {mg : Str → Option Value} (c : Facts w K mg) : FnOk P w K mg base (L2.CX P w) 10 c.f_law c.fd_law ["_law_script"] (spF K mg 1 f_law) :=
  fn_ok (N := ["_law_script", "_law_k", "_law_cell_here", "_law_digits_here", "_law_n", "_law_thing_here", "_law_kind", "_law_many", "_law_behind", "_law_place", "_law_due", "_law_one"]) (n := 11) c.F_law sc_law rfl fun cdv A outer s H E hr =>
  (jss_cons (js_for (passes_of rfl) rfl (ji_range1 (by rfl) c.b_range (js_cons (j_callB (call_max2 rfl) max2_ok (by rfl) c.b_max (by decide +kernel) (js_cons j_int (js_cons (j_callB (call_min2 rfl) min2_ok (by rfl) c.b_min (by decide +kernel) (js_cons j_int (js_cons (j_callB call_len len_ok (by rfl) c.b_len (by decide +kernel) (js_cons (j_var (i := 0) rfl (.inl rfl) rfl rfl) js_nil (by rfl)) (by decide) (by rfl) (by rfl) (by rfl)) js_nil (by rfl)) (by rfl)) (by decide) (by rfl) (by rfl) (by rfl)) js_nil (by rfl)) (by rfl)) (by decide) (by rfl) (by rfl) (by rfl)) js_nil (by rfl)) (by rfl)) (pg_name (i := 1) sc_law.nd rfl (.inl rfl)) (g_name) (jss_cons (js_set (ps_set (i := 2) sc_law.nd rfl (.inl rfl) (j_call ((ok__law_cell c).mono (by decide)) hr (takes_of (by rfl) (by rfl) (by rfl) (by rfl)) (by rfl) c.g__law_cell c.F__law_cell.kp (bi__law_cell c) (js_cons (j_var (i := 0) rfl (.inl rfl) rfl rfl) (js_cons (j_var (i := 1) rfl (.inl rfl) rfl rfl) js_nil (by rfl)) (by rfl)) (lenC (lenC lenN)) (by rfl) (by rfl) (by rfl))) (fun _ _ _ h => h))
  (jss_cons (js_set (ps_set (i := 3) sc_law.nd rfl (.inl rfl) (j_call ((ok__law_row c).mono (by decide)) hr (takes_of (by rfl) (by rfl) (by rfl) (by rfl)) (by rfl) c.g__law_row c.F__law_row.kp (bi__law_row c) (js_cons (j_var (i := 2) rfl (.inl rfl) rfl rfl) (js_cons j_int (js_cons j_int js_nil (by rfl)) (by rfl)) (by rfl)) (lenC (lenC (lenC lenN))) (by rfl) (by rfl) (by rfl))) (fun _ _ _ h => h))
  (jss_one (js_for (passes_of rfl) rfl (ji_range1 (by rfl) c.b_range (js_cons j_int js_nil (by rfl)) (by rfl)) (pg_name (i := 4) sc_law.nd rfl (.inl rfl)) (g_name) (jss_cons (js_set (ps_set (i := 5) sc_law.nd rfl (.inl rfl) (j_callM ((ok__law_thing c 6).mono (by decide)) hr (takes_of (by rfl) (by rfl) (by rfl) (by rfl)) (by rfl) c.g__law_thing c.F__law_thing.kp (bi__law_thing c) (js_cons (j_var (i := 3) rfl (.inl rfl) rfl rfl) (js_cons j_int js_nil (by rfl)) (by rfl)) (lenC (lenC lenN)) (by rfl) (by rfl) (by rfl))) (fun _ _ _ h => h))
  (jss_cons (js_if (jw_and (jb_val (j_isi kit_tup (by rfl) c.b_isinstance (by rfl) c.b_tuple (by decide +kernel) (j_var (i := 5) rfl (.inl rfl) rfl rfl) (by decide) (by rfl) (by rfl) (by rfl) (by rfl)) (fun _ => rfl)) (jw_and (jb_cmp op_gt cmpI_ok (nomark _) (j_callB call_len len_ok (by rfl) c.b_len (by decide +kernel) (js_cons (j_var (i := 5) rfl (.inl rfl) rfl rfl) js_nil (by rfl)) (by decide) (by rfl) (by rfl) (by rfl)) j_int) (jw_and1 (jb_cmp (op_inX (hu65 hr)) in_ok (by with_unfolding_all rfl) (j_ix (j_var (i := 5) rfl (.inl rfl) rfl rfl) j_int (fun _ _ => rfl)) (j_lst (js_cons j_str (js_cons j_str (js_cons j_str (js_cons j_str js_nil (by rfl)) (by rfl)) (by rfl)) (by rfl))))))).pt (jss_one (js_set (ps_set (i := 5) sc_law.nd rfl (.inl rfl) (j_op op_addD add_ok (j_tup (js_cons j_int js_nil (by rfl))) (j_slice (j_var (i := 5) rfl (.inl rfl) rfl rfl) (jo_some j_int) jo_none))) (fun _ _ _ h => h))) jss_nil)
  (jss_cons (js_if (jb_cmp (op_neX (hu64 hr)) ne_ok (nomark _) (j_call ((ok__law_failed c).mono (by decide)) hr (takes_of (by rfl) (by rfl) (by rfl) (by rfl)) (by rfl) c.g__law_failed c.F__law_failed.kp (bi__law_failed c) (js_cons (j_var (i := 5) rfl (.inl rfl) rfl rfl) js_nil (by rfl)) (lenC lenN) (by rfl) (by rfl) (by rfl)) j_int) (jss_one (js_ret j_bl)) jss_nil)
  (jss_cons (js_set (ps_set (i := 6) sc_law.nd rfl (.inl rfl) (j_op op_modN mod_ok (j_mut0 PySem.F.plainAttrs_list PySem.F.slot_list_pop PySem.F.type_list_pop mt_pop pop_ok (j_var (i := 3) rfl (.inl rfl) rfl rfl) (by rfl) (by rfl)) j_int)) (fun _ _ _ h => h))
  (jss_cons (js_set (ps_set (i := 7) sc_law.nd rfl (.inl rfl) (j_op op_addD add_ok j_int (j_op op_modN mod_ok (j_mut0 PySem.F.plainAttrs_list PySem.F.slot_list_pop PySem.F.type_list_pop mt_pop pop_ok (j_var (i := 3) rfl (.inl rfl) rfl rfl) (by rfl) (by rfl)) j_int))) (fun _ _ _ h => h))
  (jss_cons (js_set (ps_set (i := 8) sc_law.nd rfl (.inl rfl) (j_lst js_nil)) (fun _ _ _ h => h))
  (jss_cons (js_for (passes_of rfl) rfl (ji_range1 (by rfl) c.b_range (js_cons (j_op op_sub sub_ok (j_var (i := 7) rfl (.inl rfl) rfl rfl) j_int) js_nil (by rfl)) (by rfl)) (pg_name (i := 9) sc_law.nd rfl (.inl rfl)) (g_name) (jss_cons (js_set (ps_set (i := 11) sc_law.nd rfl (.inl rfl) (j_callM ((ok__law_thing c 6).mono (by decide)) hr (takes_of (by rfl) (by rfl) (by rfl) (by rfl)) (by rfl) c.g__law_thing c.F__law_thing.kp (bi__law_thing c) (js_cons (j_var (i := 3) rfl (.inl rfl) rfl rfl) (js_cons j_int js_nil (by rfl)) (by rfl)) (lenC (lenC lenN)) (by rfl) (by rfl) (by rfl))) (fun _ _ _ h => h))
  (jss_cons (js_if (jw_and (jb_cmp (op_eqX (hu64 hr)) eq_ok (nomark _) (j_var (i := 9) rfl (.inl rfl) rfl rfl) j_int) (jw_and1 (jb_val (j_isi kit_tup (by rfl) c.b_isinstance (by rfl) c.b_tuple (by decide +kernel) (j_var (i := 11) rfl (.inl rfl) rfl rfl) (by decide) (by rfl) (by rfl) (by rfl) (by rfl)) (fun _ => rfl)))).pt (jss_one (js_set (ps_set (i := 11) sc_law.nd rfl (.inl rfl) (j_callTy (call_listU rfl) listU_ok (by rfl) c.b_list (by decide +kernel) (js_cons (j_var (i := 11) rfl (.inl rfl) rfl rfl) js_nil (by rfl)) (by decide) (by rfl) (by rfl) (by rfl))) (fun _ _ _ h => h))) jss_nil)
  (jss_one (js_expr (j_append (j_var (i := 8) rfl (.inl rfl) rfl rfl) (j_var (i := 11) rfl (.inl rfl) rfl rfl) (by rfl) (by rfl) (by rfl) (by rfl) (by rfl)) rfl)))) (fun _ => rfl))
  (jss_cons (js_set (ps_set (i := 10) sc_law.nd rfl (.inl rfl) (j_op op_addD add_ok j_int (j_callTy call_int1 int1_ok (by rfl) c.b_int (by decide +kernel) (js_cons (j_cmp (op_eqX (hu64 hr)) eq_ok (nomark _) (j_var (i := 7) rfl (.inl rfl) rfl rfl) (j_ix (j_lst (js_cons j_int (js_cons j_int (js_cons j_int (js_cons j_int js_nil (by rfl)) (by rfl)) (by rfl)) (by rfl))) (j_var (i := 6) rfl (.inl rfl) rfl rfl) (fun _ _ => rfl))) js_nil (by rfl)) (by decide) (by rfl) (by rfl) (by rfl)))) (fun _ _ _ h => h))
  (jss_one (js_if (jb_cmp (op_neX (hu64 hr)) ne_ok (nomark _) (j_call ((ok__law_failed c).mono (by decide)) hr (takes_of (by rfl) (by rfl) (by rfl) (by rfl)) (by rfl) c.g__law_failed c.F__law_failed.kp (bi__law_failed c) (js_cons (j_op op_addD add_ok (j_tup (js_cons (j_ix (j_lst (js_cons j_str (js_cons j_str (js_cons j_str (js_cons j_str js_nil (by rfl)) (by rfl)) (by rfl)) (by rfl))) (j_var (i := 6) rfl (.inl rfl) rfl rfl) (fun _ _ => rfl)) js_nil (by rfl))) (j_callTy call_tuple_of tuple_ok (by rfl) c.b_tuple (by decide +kernel) (js_cons (j_var (i := 8) rfl (.inl rfl) rfl rfl) js_nil (by rfl)) (by decide) (by rfl) (by rfl) (by rfl))) js_nil (by rfl)) (lenC lenN) (by rfl) (by rfl) (by rfl)) (j_var (i := 10) rfl (.inl rfl) rfl rfl)) (jss_one (js_ret j_bl)) jss_nil)))))))))) (fun _ => rfl))))) (fun _ => rfl))
  (jss_one (js_ret j_bl)))
end K84

set_option Elab.async false
set_option maxRecDepth 100000
set_option maxHeartbeats 4000000
set_option exponentiation.threshold 5000
namespace K84
open PySem L2 DL
theorem e_cell : f__law_cell = f_cell := rfl
theorem e_row : f__law_row = DL.f_row := rfl
/-! ### things drawn -/
def Sh (n : Nat) (d : D) : Prop := PyData.canLay0 d = true ∧ PyData.depth d ≤ n
theorem Sh.mono {n m : Nat} {d : D} (h : Sh n d) (hm : n ≤ m) : Sh m d := ⟨h.1, Nat.le_trans h.2 hm⟩
theorem sh_all {n : Nat} : ∀ {l : List D}, (∀ d ∈ l, Sh n d) → PyData.canLayAll0 l = true ∧ PyData.depthAll l ≤ n
  | [], _ => ⟨by simp [PyData.canLayAll0], by simp [PyData.depthAll]⟩
  | d :: l, h => by
    obtain ⟨h1, h2⟩ := sh_all fun x hx => h x (List.mem_cons_of_mem _ hx)
    obtain ⟨g1, g2⟩ := h d List.mem_cons_self
    simp only [PyData.canLayAll0, PyData.depthAll, g1, h1, Bool.true_and, true_and]
    omega
theorem sh_list {n : Nat} {l : List D} (h : ∀ d ∈ l, Sh n d) : Sh (n + 1) (.list l) := by
  obtain ⟨h1, h2⟩ := sh_all h
  exact ⟨by simp only [PyData.canLay0, h1], by simp only [PyData.depth]; omega⟩
theorem sh_tuple {n : Nat} {l : List D} (h : ∀ d ∈ l, Sh n d) : Sh (n + 1) (.tuple l) := by
  obtain ⟨h1, h2⟩ := sh_all h
  exact ⟨by simp only [PyData.canLay0, h1], by simp only [PyData.depth]; omega⟩
def pops : Nat → Nat
  | 0 => 2
  | d + 1 => 2 + 3 * pops d
theorem pops2 (d : Nat) : 2 ≤ pops d := by cases d <;> simp [pops]
/-- the digits are popped from behind -/
def Pre (l l' : List Int) (n : Nat) : Prop := (∃ r, l = l' ++ r) ∧ l.length ≤ l'.length + n
theorem Pre.trans {a b c : List Int} {m n : Nat} (h1 : Pre a b m) (h2 : Pre b c n) : Pre a c (m + n) := by
  obtain ⟨⟨r1, rfl⟩, q1⟩ := h1
  obtain ⟨⟨r2, rfl⟩, q2⟩ := h2
  exact ⟨⟨r2 ++ r1, by rw [List.append_assoc]⟩, by omega⟩
theorem Pre.more {a b : List Int} {m n : Nat} (h : Pre a b m) (hm : m ≤ n) : Pre a b n := ⟨h.1, by have := h.2; omega⟩
theorem Pre.one (l : List Int) (x : Int) : Pre (l ++ [x]) l 1 := ⟨⟨[x], rfl⟩, by simp⟩
theorem Pre.refl (l : List Int) : Pre l l 0 := ⟨⟨[], by simp⟩, Nat.le_refl _⟩
abbrev AT0 : List D := [.none, .bool true, .bool false, .int 0, .int 1, .int (-5), .int 100000000000, .str "", .str "in", .str "half", .str "s", .tuple [], .list []]
abbrev AT1 : List D := [.str "in", .str "out", .str "same", .str "leaver", .str "third", .str "1/0"]
theorem at0_len : ∀ d ∈ AT0, ∀ ds, d = PyData.tuple ds → ds.length ≤ 3 := by
  intro d hd ds e
  subst e
  simp only [AT0, List.mem_cons, List.not_mem_nil, or_false] at hd
  simp at hd
  simp [hd]
theorem at1_len : ∀ d ∈ AT1, ∀ ds, d = PyData.tuple ds → ds.length ≤ 3 := by
  intro d hd ds e
  subst e
  simp [AT1] at hd
theorem at0_sh : ∀ d ∈ AT0, Sh 1 d := by
  intro d hd
  simp only [AT0, List.mem_cons, List.not_mem_nil, or_false] at hd
  rcases hd with rfl | rfl | rfl | rfl | rfl | rfl | rfl | rfl | rfl | rfl | rfl | rfl | rfl <;> exact ⟨by decide +kernel, by decide +kernel⟩
theorem at1_sh : ∀ d ∈ AT1, Sh 1 d := by
  intro d hd
  simp only [AT1, List.mem_cons, List.not_mem_nil, or_false] at hd
  rcases hd with rfl | rfl | rfl | rfl | rfl | rfl <;> exact ⟨by decide +kernel, by decide +kernel⟩
noncomputable abbrev thM (g : List D → List D → Option (List D × D)) : M Fl := exS (apE (getM 3) (lenF g (argC (getM 0) (argC (DL.bin fSub (getM 1) (cst (.int 1))) (argN)))))
theorem th_loop {g : List D → List D → Option (List D × D)} {deep N n : Nat} (hg : ∀ l : List Int, N ≤ l.length → ∃ l' d, g (l.map .int) [.int ((deep : Int) + 1 - 1)] = some (l'.map .int, d) ∧ Pre l l' N ∧ Sh n d) (x2 : Option T) :
    ∀ (m k : Nat) (l : List Int) (acc : List D) (x4 : Option T), m * N ≤ l.length → acc.length + m ≤ 1000 → (∀ d ∈ acc, Sh n d) → ∃ l' acc' y4, forM (asgR 4) (thM g) (irange (k : Int) m) [some (.lst (some 0) (l.map .int)), some (.val (.int ((deep : Int) + 1))), x2, some (.lst none acc), x4] =
      .ok .nx [some (.lst (some 0) (l'.map .int)), some (.val (.int ((deep : Int) + 1))), x2, some (.lst none acc'), y4] ∧ Pre l l' (m * N) ∧ (∀ d ∈ acc', Sh n d) ∧ acc'.length ≤ acc.length + m := by
  intro m
  induction m with
  | zero => exact fun k l acc x4 h1 h2 h3 => ⟨l, acc, x4, rfl, by rw [Nat.zero_mul]; exact Pre.refl l, h3, by omega⟩
  | succ m ih =>
    intro k l acc x4 h1 h2 h3
    rw [Nat.add_mul, Nat.one_mul] at h1
    obtain ⟨l1, d, e1, p1, s1⟩ := hg l (by omega)
    have := p1.2
    obtain ⟨l', acc', y4, e2, p2, s2, a2⟩ := ih (k + 1) l1 (acc ++ [d]) (some (.val (.int k))) (by omega) (by simp; omega) (fun x hx => by
      rcases List.mem_append.mp hx with q | q
      · exact h3 x q
      · rw [List.mem_singleton.mp q]
        exact s1)
    refine ⟨l', acc', y4, ?_, (p1.trans p2).more (by rw [Nat.add_mul]; omega), s2, by simp at a2; omega⟩
    have ep : asgR 4 (.tmp (.val (.int k))) [some (.lst (some 0) (l.map .int)), some (.val (.int ((deep : Int) + 1))), x2, some (.lst none acc), x4] = .ok () [some (.lst (some 0) (l.map .int)), some (.val (.int ((deep : Int) + 1))), x2, some (.lst none acc), some (.val (.int k))] := by simp
    have hl : acc.length < 16777216 := by omega
    have eb : thM g [some (.lst (some 0) (l.map .int)), some (.val (.int ((deep : Int) + 1))), x2, some (.lst none acc), some (.val (.int k))] = .ok .nx [some (.lst (some 0) (l1.map .int)), some (.val (.int ((deep : Int) + 1))), x2, some (.lst none (acc ++ [d])), some (.val (.int k))] := by
      generalize l.map PyData.int = L at *
      generalize l1.map PyData.int = L1 at *
      generalize (deep : Int) + 1 = dd at *
      simp [e1, hl]
    rw [irange_cons, forM_cons, bind_ap, ep, bnd_ok, eb, bnd_ok, loop_nx]
    exact e2
theorem thing_ok : ∀ (deep n : Nat) (l : List Int), deep + 1 ≤ n → pops deep ≤ l.length → ∃ l' d, f__law_thing n (l.map .int) [.int (deep : Int)] = some (l'.map .int, d) ∧ Pre l l' (pops deep) ∧ Sh (deep + 1) d ∧ (∀ ds, d = .tuple ds → ds.length ≤ 3) := by
  intro deep
  induction deep with
  | zero =>
    intro n l hn hl
    obtain ⟨n, rfl⟩ : ∃ k, n = k + 1 := ⟨n - 1, by omega⟩
    obtain ⟨l1, w, rfl⟩ := snocI (l := l) (by have := pops2 0; omega)
    obtain ⟨l2, c, rfl⟩ := snocI (l := l1) (by simp [pops] at hl; omega)
    have p1 := fPop_ints (l2 ++ [c]) w
    have p2 := fPop_ints l2 c
    obtain ⟨s1, s2⟩ := fmod_pos (a := c) (b := 13) (by decide)
    obtain ⟨v, hv, av⟩ := atI_mem (l := AT0) s1 s2
    have bp : bPow 10 11 = true := by decide
    refine ⟨l2, v, ?_, ((Pre.one (l2 ++ [c]) w).trans (Pre.one l2 c)).more (pops2 0), at0_sh v hv, at0_len v hv⟩
    show runM 3 (m__law_thing (f__law_thing n)) _ _ = _
    unfold m__law_thing
    rw [runM_eq]
    generalize ((l2 ++ [c]) ++ [w]).map PyData.int = L0 at *
    generalize (l2 ++ [c]).map PyData.int = L1 at *
    generalize l2.map PyData.int = L2 at *
    by_cases hw : w.fmod 9 = 0
    · simp [p1, p2, hw, bp, av]
    · simp [p1, p2, hw, bp, av]
  | succ deep ih =>
    intro n l hn hl
    obtain ⟨n, rfl⟩ : ∃ k, n = k + 1 := ⟨n - 1, by omega⟩
    obtain ⟨l1, w, rfl⟩ := snocI (l := l) (by have := pops2 (deep + 1); omega)
    obtain ⟨l2, c, rfl⟩ := snocI (l := l1) (by have := pops2 (deep + 1); simp at hl; omega)
    have p1 := fPop_ints (l2 ++ [c]) w
    have p2 := fPop_ints l2 c
    have bp : bPow 10 11 = true := by decide
    have pp := (Pre.one (l2 ++ [c]) w).trans (Pre.one l2 c)
    have g9 := fmod_pos (a := w) (b := 9) (by decide)
    by_cases hw : w.fmod 9 = 0
    · obtain ⟨s1, s2⟩ := fmod_pos (a := c) (b := 13) (by decide)
      obtain ⟨v, hv, av⟩ := atI_mem (l := AT0) s1 s2
      refine ⟨l2, v, ?_, pp.more (pops2 _), (at0_sh v hv).mono (by omega), at0_len v hv⟩
      show runM 3 (m__law_thing (f__law_thing n)) _ _ = _
      unfold m__law_thing
      rw [runM_eq]
      generalize ((l2 ++ [c]) ++ [w]).map PyData.int = L0 at *
      generalize (l2 ++ [c]).map PyData.int = L1 at *
      generalize l2.map PyData.int = L2 at *
      simp [p1, p2, hw, bp, av]
    · have d0 : ¬ ((deep : Int) + 1) = 0 := by omega
      by_cases h3 : w.fmod 9 < 3
      · refine ⟨l2, .int (c - 20), ?_, pp.more (pops2 _), ⟨by simp [PyData.canLay0], by simp [PyData.depth]⟩, fun ds e => by cases e⟩
        show runM 3 (m__law_thing (f__law_thing n)) _ _ = _
        unfold m__law_thing
        rw [runM_eq]
        rw [show ((deep + 1 : Nat) : Int) = (deep : Int) + 1 by omega]
        generalize ((l2 ++ [c]) ++ [w]).map PyData.int = L0 at *
        generalize (l2 ++ [c]).map PyData.int = L1 at *
        generalize l2.map PyData.int = L2 at *
        generalize (deep : Int) + 1 = dd at *
        simp [p1, p2, hw, h3, d0]
      · by_cases h5 : w.fmod 9 < 5
        · obtain ⟨s1, s2⟩ := fmod_pos (a := c) (b := 6) (by decide)
          obtain ⟨v, hv, av⟩ := atI_mem (l := AT1) s1 s2
          refine ⟨l2, v, ?_, pp.more (pops2 _), (at1_sh v hv).mono (by omega), at1_len v hv⟩
          show runM 3 (m__law_thing (f__law_thing n)) _ _ = _
          unfold m__law_thing
          rw [runM_eq]
          rw [show ((deep + 1 : Nat) : Int) = (deep : Int) + 1 by omega]
          generalize ((l2 ++ [c]) ++ [w]).map PyData.int = L0 at *
          generalize (l2 ++ [c]).map PyData.int = L1 at *
          generalize l2.map PyData.int = L2 at *
          generalize (deep : Int) + 1 = dd at *
          simp [p1, p2, hw, h3, h5, d0, av]
        · obtain ⟨c1, c2⟩ := fmod_pos (a := c) (b := 4) (by decide)
          obtain ⟨m, hm⟩ : ∃ m : Nat, c.fmod 4 = (m : Int) := ⟨(c.fmod 4).toNat, by omega⟩
          have hm3 : m ≤ 3 := by omega
          have hlen : m * pops deep ≤ l2.length := by
            have : m * pops deep ≤ 3 * pops deep := Nat.mul_le_mul_right _ hm3
            simp [pops] at hl
            omega
          obtain ⟨l', acc, y4, e, pr, sh, al⟩ := th_loop (g := f__law_thing n) (deep := deep) (N := pops deep) (n := deep + 1) (fun l h => by
            rw [show (deep : Int) + 1 - 1 = (deep : Int) by omega]
            obtain ⟨l', d, q1, q2, q3, _⟩ := ih n l (by omega) h
            exact ⟨l', d, q1, q2, q3⟩) (some (.val (.int (w.fmod 9)))) m 0 l2 [] none hlen (by simp; omega) (fun d hd => by cases hd)
          have hrn := fun ρ => rng_nat ρ (n := m) (by omega)
          obtain ⟨s1, s2⟩ := fmod_pos (a := w.fmod 9) (b := 2) (by decide)
          obtain ⟨v, hv, av⟩ := atI_mem (l := [.list acc, .tuple acc]) s1 s2
          refine ⟨l', v, ?_, (pp.trans pr).more ?_, ?_, ?_⟩
          · show runM 3 (m__law_thing (f__law_thing n)) _ _ = _
            unfold m__law_thing
            rw [runM_eq]
            rw [show ((deep + 1 : Nat) : Int) = (deep : Int) + 1 by omega]
            simp only [thM, Int.natCast_zero] at e
            generalize ((l2 ++ [c]) ++ [w]).map PyData.int = L0 at *
            generalize (l2 ++ [c]).map PyData.int = L1 at *
            generalize l2.map PyData.int = L2 at *
            generalize l'.map PyData.int = L3 at *
            generalize (deep : Int) + 1 = dd at *
            generalize f__law_thing n = g at *
            simp [p1, p2, hw, h3, h5, d0, hm, hrn, e, av]
          · have : m * pops deep ≤ 3 * pops deep := Nat.mul_le_mul_right _ hm3
            simp only [pops]
            omega
          · simp only [List.mem_cons, List.not_mem_nil, or_false] at hv
            rcases hv with rfl | rfl
            · exact sh_list sh
            · exact sh_tuple sh
          · intro ds e
            subst e
            simp at hv
            subst hv
            simp at al
            omega
def noP (k : Int) : XD := ⟨"NoPaper", [("at", .int k)]⟩
theorem ask_t (k : Int) : f_ask [.bool true, .int k] = .ok (.val .none) := by
  unfold f_ask m_ask
  rw [run_eq]
  simp
theorem ask_f {k : Int} (h0 : 0 ≤ k) (h1 : k < 10) : f_ask [.bool false, .int k] = .exc (noP k) := by
  unfold f_ask m_ask
  rw [run_eq]
  simp [h0, h1, noP]
theorem failed_of {t : D} {k : Int} (h : f_looked [t] = .exc (noP k)) : f__law_failed [t] = .ok (.val (.int k)) := by
  unfold f__law_failed m__law_failed
  rw [run_eq]
  have e : ifS (tcmp fIsNot (callF f_looked (argC (getM 0) (argN))) (cst .none)) (retS (un fNeg (cst (.int 1)))) (nilS) (List.map (fun d => some (T.val d)) [t] ++ List.replicate 1 none) = .exc (noP k) [some (.val t), none] := by
    simp [h]
  have e1 : clsOf [("NoFan", false), ("NoPaper", true), ("NoTurning", false), ("TooLong", false)] (noP k).cls = some true := by
    show clsOf [("NoFan", false), ("NoPaper", true), ("NoTurning", false), ("TooLong", false)] "NoPaper" = some true
    decide +kernel
  have e3 : (noP k).fs.lookup ("at" : Str) = some (PyData.int k) := by
    show ([(("at" : Str), PyData.int k)]).lookup ("at" : Str) = _
    rw [List.lookup_cons]
    have : (("at" : Str) == ("at" : Str)) = true := by decide +kernel
    rw [this]
  rw [seq_ap, tryG_exc e e1 e3 (by simp)]
  rfl
/-- no tuple that begins with a text -/
theorem looked1 {t : D} (h : ∀ s r, t ≠ .tuple (.str s :: r)) : f_looked [t] = .exc (noP 1) := by
  have a := ask_f (k := 1) (by decide) (by decide)
  unfold f_looked m_looked
  rw [run_eq]
  cases t with
  | tuple ds =>
    cases ds with
    | nil => simp [isTup, a]
    | cons d ds =>
      have hs : isStr d = false := by
        cases d <;> first | rfl | exact absurd rfl (h _ _)
      have hl : (0 : Int) < (ds.length : Int) + 1 := by omega
      simp [isTup, hs, a, hl]
  | _ => simp [isTup, a]
def SZ : List (Str × D) := [("in", (.int 4)), ("out", (.int 4)), ("same", (.int 3)), ("leaver", (.int 4))]
theorem fold_SZ : [(("in" : Str), PyData.int 4), ("out", .int 4), ("same", .int 3), ("leaver", .int 4)] = SZ := rfl
theorem tabIn_S {ρ : Rho} {r : R} {s : Str} (h : look r ρ = some (.str s)) : tabIn false SZ r ρ = .ok (.tmp (.val (.bool (decide (s ∈ SZ.map Prod.fst))))) ρ := by
  unfold tabIn
  rw [h]
  rfl
theorem looked2 {s : Str} {r : List D} (h : ¬ s ∈ SZ.map Prod.fst) : f_looked [.tuple (.str s :: r)] = .exc (noP 1) := by
  have a := ask_f (k := 1) (by decide) (by decide)
  have b := ask_t 1
  have ti : ∀ (ρ : Rho) (i : Nat), look (.slot i) ρ = some (.str s) → tabIn false SZ (.slot i) ρ = .ok (.tmp (.val (.bool false))) ρ := fun ρ i hh => by rw [tabIn_S hh, decide_eq_false h]
  unfold f_looked m_looked
  rw [run_eq, fold_SZ]
  have hl : (0 : Int) < (r.length : Int) + 1 := by omega
  simp [isTup, isStr, a, b, hl, ti]
/-- a kind: its name, its size, its number -/
def KIND (s : Str) (z : Nat) (j : Nat) : Prop := (s = "in" ∧ z = 4 ∧ j = 0) ∨ (s = "out" ∧ z = 4 ∧ j = 1) ∨ (s = "same" ∧ z = 3 ∧ j = 2) ∨ (s = "leaver" ∧ z = 4 ∧ j = 3)
theorem KIND.look {s : Str} {z j : Nat} (h : KIND s z j) : s ∈ SZ.map Prod.fst ∧ SZ.lookup s = some (.int (z : Int)) := by
  rcases h with ⟨rfl, rfl, _⟩ | ⟨rfl, rfl, _⟩ | ⟨rfl, rfl, _⟩ | ⟨rfl, rfl, _⟩
  · exact ⟨by decide +kernel, rfl⟩
  · exact ⟨by decide +kernel, rfl⟩
  · exact ⟨by decide +kernel, rfl⟩
  · exact ⟨by decide +kernel, rfl⟩
theorem looked3 {s : Str} {r : List D} {z j : Nat} (h : KIND s z j) (hz : r.length + 1 ≠ z) : f_looked [.tuple (.str s :: r)] = .exc (noP 1) := by
  have a := ask_f (k := 1) (by decide) (by decide)
  have b := ask_t 1
  obtain ⟨h1, h2⟩ := h.look
  have ti : ∀ (ρ : Rho) (i : Nat), look (.slot i) ρ = some (.str s) → tabIn false SZ (.slot i) ρ = .ok (.tmp (.val (.bool true))) ρ := fun ρ i hh => by rw [tabIn_S hh, decide_eq_true h1]
  unfold f_looked m_looked
  rw [run_eq, fold_SZ]
  have hl : (0 : Int) < (r.length : Int) + 1 := by omega
  have hz' : ¬ (r.length : Int) + 1 = (z : Int) := by omega
  generalize SZ = sz at *
  simp [isTup, isStr, a, b, hl, ti, h2, hz']
theorem isfan_no {d : D} (h : isTup d = false) : f_is_fan [d] = .ok (.val (.bool false)) := by
  have lk : f_look [d] = .exc ⟨"NoFan", [("at", .int 0), ("where", .str "fan")]⟩ := by
    unfold f_look m_look
    rw [run_eq]
    simp [h]
  unfold f_is_fan m_is_fan
  rw [run_eq]
  have e : exS (callF f_look (argC (getM 0) (argN))) (List.map (fun d => some (T.val d)) [d] ++ List.replicate 0 none) = .exc ⟨"NoFan", [("at", .int 0), ("where", .str "fan")]⟩ [some (.val d)] := by
    simp [lk]
  have e1 : clsOf [("NoFan", true), ("NoPaper", false), ("NoTurning", false), ("TooLong", false)] "NoFan" = some true := by decide +kernel
  rw [seq_ap, tryO_exc e e1]
  rfl
theorem istab_no {d : D} (h : isTup d = false) : f_is_table [d] = .ok (.val (.bool false)) := by
  unfold f_is_table m_is_table
  rw [run_eq]
  simp [h]
theorem looked4 {s : Str} {d : D} {r : List D} {z j : Nat} (h : KIND s z j) (hz : r.length + 2 = z) (hd : isTup d = false) : f_looked [.tuple (.str s :: d :: r)] = .exc (noP 2) := by
  have a := ask_f (k := 2) (by decide) (by decide)
  have b := ask_t 1
  have c1 := isfan_no hd
  have c2 := istab_no hd
  have l1 : f_look_in [d, r.getD 0 .none, r.getD 1 .none] = .exc (noP 2) := by
    unfold f_look_in m_look_in
    rw [run_eq]
    simp [c1, a]
  have l2 : f_look_out [d, r.getD 0 .none, r.getD 1 .none] = .exc (noP 2) := by
    unfold f_look_out m_look_out
    rw [run_eq]
    simp [c2, a]
  have l3 : f_look_same [d, r.getD 0 .none] = .exc (noP 2) := by
    unfold f_look_same m_look_same
    rw [run_eq]
    simp [c1, a]
  have l4 : f_look_leaver [d, r.getD 0 .none, r.getD 1 .none] = .exc (noP 2) := by
    unfold f_look_leaver m_look_leaver
    rw [run_eq]
    simp [c2, a]
  obtain ⟨h1, h2⟩ := h.look
  have ti : ∀ (ρ : Rho) (i : Nat), look (.slot i) ρ = some (.str s) → tabIn false SZ (.slot i) ρ = .ok (.tmp (.val (.bool true))) ρ := fun ρ i hh => by rw [tabIn_S hh, decide_eq_true h1]
  unfold f_looked m_looked
  rw [run_eq, fold_SZ]
  generalize SZ = sz at *
  rcases h with ⟨rfl, rfl, _⟩ | ⟨rfl, rfl, _⟩ | ⟨rfl, rfl, _⟩ | ⟨rfl, rfl, _⟩
  · match r, hz with
    | [x, y], _ =>
      simp at l1
      simp [isTup, isStr, b, ti, h2, l1]
  · match r, hz with
    | [x, y], _ =>
      have n1 : ¬ (("out" : Str) = "in") := by decide +kernel
      simp at l2
      simp [isTup, isStr, b, ti, h2, l2, n1]
  · match r, hz with
    | [x], _ =>
      have n1 : ¬ (("same" : Str) = "in") := by decide +kernel
      have n2 : ¬ (("same" : Str) = "out") := by decide +kernel
      simp at l3
      simp [isTup, isStr, b, ti, h2, l3, n1, n2]
  · match r, hz with
    | [x, y], _ =>
      have n1 : ¬ (("leaver" : Str) = "in") := by decide +kernel
      have n2 : ¬ (("leaver" : Str) = "out") := by decide +kernel
      have n3 : ¬ (("leaver" : Str) = "same") := by decide +kernel
      simp at l4
      simp [isTup, isStr, b, ti, h2, l4, n1, n2, n3]
end K84

set_option Elab.async false
set_option maxRecDepth 100000
set_option maxHeartbeats 4000000
set_option exponentiation.threshold 5000
namespace K84
open PySem L2 DL
abbrev KN : List D := [.str "in", .str "out", .str "same", .str "leaver"]
theorem kn_in {x : D} (h : Sh 50 x) : ∃ b, fIn x (.list KN) = some (.val (.bool b)) ∧ (∀ s, x = .str s → b = false → ¬ s ∈ SZ.map Prod.fst) := by
  have s1 : SeqAt.shaped x = true := by
    unfold SeqAt.shaped
    rw [h.1, Bool.true_and]
    exact decide_eq_true (by have := h.2; omega)
  have s2 : SeqAt.shaped (.list KN) = true := by decide +kernel
  have e : inD x (.list KN) = some (KN.any fun z => PyData.eqv z x) := by
    show inL _ _ = _
    unfold inL
    split
    · rfl
    · rw [if_pos (by rw [s1, s2]; rfl)]
  refine ⟨KN.any fun z => PyData.eqv z x, by unfold fIn; rw [e]; rfl, ?_⟩
  rintro s rfl hb hm
  have hs : s = "in" ∨ s = "out" ∨ s = "same" ∨ s = "leaver" := by
    unfold SZ at hm
    simpa using hm
  rcases hs with rfl | rfl | rfl | rfl
  · revert hb; decide +kernel
  · revert hb; decide +kernel
  · revert hb; decide +kernel
  · revert hb; decide +kernel
theorem sl1 (x : D) (r : List D) : fSl (.tuple (x :: r)) (some 1) none = some (.val (.tuple r)) := by
  rw [fSl_t]
  have h1 : HT.sIx (x :: r).length 0 (some 1) = 1 := by
    simp [HT.sIx]
  have h2 : HT.sIx (x :: r).length (x :: r).length none = r.length + 1 := by simp [HT.sIx]
  rw [h1, h2]
  simp
noncomputable abbrev hdM : M Fl := ifS (andM (tst (isi isTup (getM 5))) (andM (tcmp fGt (callB fLen (argC (getM 5) (argN))) (cst (.int 0))) (tcmp fIn (bin fIx (getM 5) (cst (.int 0))) (lstM (argC (cst (.str "in")) (argC (cst (.str "out")) (argC (cst (.str "same")) (argC (cst (.str "leaver")) (argN))))))))) (setS 5 (bin fAdd (tupM (argC (cst (.int 0)) (argN))) (slM (getM 5) (M.bind (cst (.int 1)) asInt) (M.ret none)))) (nilS)
theorem hd_ok {d : D} (h : Sh 40 d) (hl : ∀ ds, d = .tuple ds → ds.length ≤ 3) (x0 x1 x2 x3 x4 x6 x7 x8 x9 x10 x11 : Option T) : ∃ d', hdM [x0, x1, x2, x3, x4, some (.val d), x6, x7, x8, x9, x10, x11] = .ok .nx [x0, x1, x2, x3, x4, some (.val d'), x6, x7, x8, x9, x10, x11] ∧ f__law_failed [d'] = .ok (.val (.int 1)) := by
  by_cases ht : isTup d = true
  · obtain ⟨ds, rfl⟩ : ∃ ds, d = .tuple ds := by
      cases d <;> first | exact ⟨_, rfl⟩ | exact Bool.noConfusion ht
    cases ds with
    | nil =>
      exact ⟨.tuple [], by simp [isTup], failed_of (looked1 fun s r e => by cases e)⟩
    | cons x r =>
      have l3 := hl _ rfl
      have hx : Sh 50 x := by
        obtain ⟨h1, h2⟩ := h
        simp only [PyData.canLay0, PyData.canLayAll0, Bool.and_eq_true] at h1
        simp only [PyData.depth, PyData.depthAll] at h2
        exact ⟨h1.1, by omega⟩
      obtain ⟨b, e, hb⟩ := kn_in hx
      have hp : (0 : Int) < (r.length : Int) + 1 := by omega
      cases b with
      | true =>
        have ad : fAdd (.tuple [.int 0]) (.tuple r) = some (.val (.tuple (.int 0 :: r))) := by
          rw [fAdd_tt _ _ (by simp at l3 ⊢; omega)]
          rfl
        exact ⟨.tuple (.int 0 :: r), by simp [-fSl_t, isTup, hp, e, sl1, ad], failed_of (looked1 fun s r e => by cases e)⟩
      | false =>
        refine ⟨.tuple (x :: r), by simp [isTup, hp, e], failed_of ?_⟩
        by_cases hs : ∃ s, x = .str s
        · obtain ⟨s, rfl⟩ := hs
          exact looked2 (hb s rfl rfl)
        · exact looked1 fun s r' e => hs ⟨s, by cases e; rfl⟩
  · have ht' : isTup d = false := by simpa using ht
    exact ⟨d, by simp [ht'], failed_of (looked1 fun s r e => by rw [e] at ht'; cases ht')⟩
noncomputable abbrev beM : M Fl := (seqM (setS 11 (lenF (f__law_thing 6) (argC (getM 3) (argC (cst (.int 2)) (argN)))))
  (seqM (ifS (andM (tcmp fEq (getM 9) (cst (.int 0))) (tst (isi isTup (getM 11)))) (setS 11 (callB fListU (argC (getM 11) (argN)))) (nilS))
  (exS (apE (getM 8) (getM 11)))))
theorem be_loop (x0 x1 x2 x4 x5 x6 x7 x10 : Option T) : ∀ (m k : Nat) (l : List Int) (acc : List D) (x9 x11 : Option T), m * pops 2 ≤ l.length → acc.length + m ≤ 1000 → acc.length = k → (∀ d r, acc = d :: r → isTup d = false) →
    ∃ l' acc' y9 y11, forM (asgR 9) beM (irange (k : Int) m) [x0, x1, x2, some (.lst none (l.map .int)), x4, x5, x6, x7, some (.lst none acc), x9, x10, x11] =
      .ok .nx [x0, x1, x2, some (.lst none (l'.map .int)), x4, x5, x6, x7, some (.lst none acc'), y9, x10, y11] ∧ Pre l l' (m * pops 2) ∧ acc'.length = acc.length + m ∧ (∀ d r, acc' = d :: r → isTup d = false) := by
  intro m
  induction m with
  | zero => exact fun k l acc x9 x11 h1 h2 h3 h4 => ⟨l, acc, x9, x11, rfl, by rw [Nat.zero_mul]; exact Pre.refl l, rfl, h4⟩
  | succ m ih =>
    intro k l acc x9 x11 h1 h2 h3 h4
    rw [Nat.add_mul, Nat.one_mul] at h1
    obtain ⟨l1, d, e1, p1, s1, t1⟩ := thing_ok 2 6 l (by decide) (by omega)
    have := p1.2
    have ep : asgR 9 (.tmp (.val (.int k))) [x0, x1, x2, some (.lst none (l.map .int)), x4, x5, x6, x7, some (.lst none acc), x9, x10, x11] = .ok () [x0, x1, x2, some (.lst none (l.map .int)), x4, x5, x6, x7, some (.lst none acc), some (.val (.int k)), x10, x11] := by simp
    have hl : acc.length < 16777216 := by omega
    have e1' : f__law_thing 6 (l.map .int) [.int 2] = some (l1.map .int, d) := e1
    have step : ∃ d' y11, beM [x0, x1, x2, some (.lst none (l.map .int)), x4, x5, x6, x7, some (.lst none acc), some (.val (.int k)), x10, x11] = .ok .nx [x0, x1, x2, some (.lst none (l1.map .int)), x4, x5, x6, x7, some (.lst none (acc ++ [d'])), some (.val (.int k)), x10, y11] ∧ (k = 0 → isTup d' = false) := by
      generalize l.map PyData.int = L at *
      generalize l1.map PyData.int = L1 at *
      by_cases hk : k = 0
      · subst hk
        by_cases ht : isTup d = true
        · obtain ⟨ds, rfl⟩ : ∃ ds, d = .tuple ds := by
            cases d <;> first | exact ⟨_, rfl⟩ | exact Bool.noConfusion ht
          refine ⟨.list ds, some (.val (.list ds)), ?_, fun _ => rfl⟩
          simp [e1', hl, isTup]
        · have ht' : isTup d = false := by simpa using ht
          refine ⟨d, some (.val d), ?_, fun _ => ht'⟩
          simp [e1', hl, ht']
      · refine ⟨d, some (.val d), ?_, fun z => absurd z hk⟩
        simp [e1', hl, hk]
    obtain ⟨d', z11, e3, h3'⟩ := step
    obtain ⟨l', acc', y9, y11, e2, p2, a2, b2⟩ := ih (k + 1) l1 (acc ++ [d']) (some (.val (.int k))) z11 (by omega) (by simp; omega) (by simp; omega) (fun x r hx => by
      cases acc with
      | nil =>
        simp at hx
        rw [← hx.1]
        exact h3' (by simpa using h3.symm)
      | cons y acc =>
        simp at hx
        rw [← hx.1]
        exact h4 y acc rfl)
    refine ⟨l', acc', y9, y11, ?_, (p1.trans p2).more (by rw [Nat.add_mul]; omega), by simp at a2; omega, b2⟩
    rw [irange_cons, forM_cons, bind_ap, ep, bnd_ok, e3, bnd_ok, loop_nx]
    exact e2
noncomputable abbrev itM : M Fl := (seqM (setS 5 (lenF (f__law_thing 6) (argC (getM 3) (argC (cst (.int 4)) (argN)))))
  (seqM hdM
  (seqM (ifS (tcmp fNe (callF f__law_failed (argC (getM 5) (argN))) (cst (.int 1))) (retS (cst (.bool false))) (nilS))
  (seqM (setS 6 (DL.bin fMod (muE0 fPop (getM 3)) (cst (.int 4))))
  (seqM (setS 7 (DL.bin fAdd (cst (.int 1)) (DL.bin fMod (muE0 fPop (getM 3)) (cst (.int 5)))))
  (seqM (setS 8 (lstM (argN)))
  (seqM (forS (asgR 9) (itR1 (argC (DL.bin fSub (getM 7) (cst (.int 1))) (argN))) beM)
  (seqM (setS 10 (DL.bin fAdd (cst (.int 1)) (callB fInt1 (argC (DL.bin fEq (getM 7) (DL.bin fIx (lstM (argC (cst (.int 4)) (argC (cst (.int 4)) (argC (cst (.int 3)) (argC (cst (.int 4)) (argN)))))) (getM 6))) (argN)))))
  (ifS (tcmp fNe (callF f__law_failed (argC (DL.bin fAdd (tupM (argC (DL.bin fIx (lstM (argC (cst (.str "in")) (argC (cst (.str "out")) (argC (cst (.str "same")) (argC (cst (.str "leaver")) (argN)))))) (getM 6)) (argN))) (callB fTuple (argC (getM 8) (argN)))) (argN))) (getM 10)) (retS (cst (.bool false))) (nilS))))))))))
theorem kinds {j : Nat} (h : j < 4) : ∃ s z, KIND s z j ∧ atI KN (j : Int) = some (.str s) ∧ atI [PyData.int 4, .int 4, .int 3, .int 4] (j : Int) = some (.int (z : Int)) := by
  have : j = 0 ∨ j = 1 ∨ j = 2 ∨ j = 3 := by omega
  rcases this with rfl | rfl | rfl | rfl
  · exact ⟨"in", 4, .inl ⟨rfl, rfl, rfl⟩, rfl, rfl⟩
  · exact ⟨"out", 4, .inr (.inl ⟨rfl, rfl, rfl⟩), rfl, rfl⟩
  · exact ⟨"same", 3, .inr (.inr (.inl ⟨rfl, rfl, rfl⟩)), rfl, rfl⟩
  · exact ⟨"leaver", 4, .inr (.inr (.inr ⟨rfl, rfl, rfl⟩)), rfl, rfl⟩
theorem it_ok (l : List Int) (hl : 348 ≤ l.length) (x0 x1 x2 x4 x5 x6 x7 x8 x9 x10 x11 : Option T) : ∃ l' y5 y6 y7 y8 y9 y10 y11, itM [x0, x1, x2, some (.lst none (l.map .int)), x4, x5, x6, x7, x8, x9, x10, x11] = .ok .nx [x0, x1, x2, some (.lst none (l'.map .int)), x4, y5, y6, y7, y8, y9, y10, y11] ∧ Pre l l' 348 := by
  obtain ⟨l1, d, e1, p1, s1, t1⟩ := thing_ok 4 6 l (by decide) (by simp [pops]; omega)
  have e1' : f__law_thing 6 (l.map .int) [.int 4] = some (l1.map .int, d) := e1
  have n1 := p1.2
  simp only [pops] at n1
  obtain ⟨l2, a, rfl⟩ := snocI (l := l1) (by omega)
  obtain ⟨l3, b, rfl⟩ := snocI (l := l2) (by simp at n1; omega)
  have q1 := fPop_ints (l3 ++ [b]) a
  have q2 := fPop_ints l3 b
  obtain ⟨a0, a1⟩ := fmod_pos (a := a) (b := 4) (by decide)
  obtain ⟨b0, b1⟩ := fmod_pos (a := b) (b := 5) (by decide)
  obtain ⟨j, hj⟩ : ∃ j : Nat, a.fmod 4 = (j : Int) := ⟨(a.fmod 4).toNat, by omega⟩
  obtain ⟨m, hm⟩ : ∃ m : Nat, b.fmod 5 = (m : Int) := ⟨(b.fmod 5).toNat, by omega⟩
  have hj4 : j < 4 := by omega
  have hm4 : m ≤ 4 := by omega
  obtain ⟨s, z, K, k1, k2⟩ := kinds hj4
  have hlen : m * pops 2 ≤ l3.length := by
    have : m * pops 2 ≤ 4 * pops 2 := Nat.mul_le_mul_right _ hm4
    simp [pops] at this n1 ⊢
    omega
  obtain ⟨d', e2, f1⟩ := hd_ok (s1.mono (by decide)) t1 x0 x1 x2 (some (.lst none ((l3 ++ [b] ++ [a]).map .int))) x4 x6 x7 x8 x9 x10 x11
  obtain ⟨l4, acc, y9, y11, e3, p3, ac, hd⟩ := be_loop x0 x1 x2 x4 (some (.val d')) (some (.val (.int (j : Int)))) (some (.val (.int (1 + (m : Int))))) x10 m 0 l3 [] x9 x11 hlen (by simp; omega) rfl (fun d r h => by cases h)
  simp at ac
  have due : f__law_failed [.tuple (.str s :: acc)] = .ok (.val (.int (1 + if 1 + (m : Int) = (z : Int) then 1 else 0))) := by
    by_cases hz : 1 + (m : Int) = (z : Int)
    · rw [if_pos hz]
      have z3 : 3 ≤ z := by rcases K with ⟨_, h, _⟩ | ⟨_, h, _⟩ | ⟨_, h, _⟩ | ⟨_, h, _⟩ <;> omega
      cases acc with
      | nil => simp at ac; omega
      | cons x r => exact failed_of (looked4 K (by simp at ac; omega) (hd x r rfl))
    · rw [if_neg hz]
      exact failed_of (looked3 K (by rw [ac]; omega))
  have hrn := fun ρ => rng_nat ρ (n := m) (by omega)
  have cat : fAdd (.tuple [.str s]) (.tuple acc) = some (.val (.tuple (.str s :: acc))) := by
    rw [fAdd_tt _ _ (by simp; omega)]
    rfl
  have pr : Pre l l4 348 := by
    have := ((p1.trans (Pre.one (l3 ++ [b]) a)).trans (Pre.one l3 b)).trans p3
    refine this.more ?_
    have : m * pops 2 ≤ 4 * pops 2 := Nat.mul_le_mul_right _ hm4
    simp [pops] at this ⊢
    omega
  refine ⟨l4, some (.val d'), some (.val (.int (j : Int))), some (.val (.int (1 + (m : Int)))), some (.lst none acc), y9, some (.val (.int (1 + if 1 + (m : Int) = (z : Int) then 1 else 0))), y11, ?_, pr⟩
  have h5 : setS 5 (lenF (f__law_thing 6) (argC (getM 3) (argC (cst (.int 4)) (argN)))) [x0, x1, x2, some (.lst none (l.map .int)), x4, x5, x6, x7, x8, x9, x10, x11] = .ok .nx [x0, x1, x2, some (.lst none ((l3 ++ [b] ++ [a]).map .int)), x4, some (.val d), x6, x7, x8, x9, x10, x11] := by
    generalize l.map PyData.int = L at *
    generalize (l3 ++ [b] ++ [a]).map PyData.int = L1 at *
    simp [e1']
  unfold itM
  rw [seq_ap, h5, bnd_ok, then_nx, seq_ap, e2, bnd_ok, then_nx]
  simp only [beM, Int.natCast_zero] at e3
  generalize (l3 ++ [b] ++ [a]).map PyData.int = L1 at *
  generalize (l3 ++ [b]).map PyData.int = L2 at *
  generalize l3.map PyData.int = L3 at *
  generalize l4.map PyData.int = L4 at *
  generalize hjj : (j : Int) = jj at *
  generalize (m : Int) = mm at *
  have em : 1 + mm - 1 = mm := by omega
  by_cases hz : 1 + mm = (z : Int)
  · rw [if_pos hz] at *
    simp [f1, q1, q2, hj, hm, em, hrn, e3, k1, k2, eq_true hz, cat, due]
  · rw [if_neg hz] at *
    simp [f1, q1, q2, hj, hm, em, hrn, e3, k1, k2, hz, cat, due]
theorem it_loop (x0 x1 x2 : Option T) : ∀ (m k : Nat) (l : List Int) (x4 x5 x6 x7 x8 x9 x10 x11 : Option T), m * 348 ≤ l.length → ∃ y3 y4 y5 y6 y7 y8 y9 y10 y11, forM (asgR 4) itM (irange (k : Int) m) [x0, x1, x2, some (.lst none (l.map .int)), x4, x5, x6, x7, x8, x9, x10, x11] =
    .ok .nx [x0, x1, x2, y3, y4, y5, y6, y7, y8, y9, y10, y11] := by
  intro m
  induction m with
  | zero => exact fun k l x4 x5 x6 x7 x8 x9 x10 x11 h => ⟨_, _, _, _, _, _, _, _, _, rfl⟩
  | succ m ih =>
    intro k l x4 x5 x6 x7 x8 x9 x10 x11 h
    obtain ⟨l1, z5, z6, z7, z8, z9, z10, z11, e1, p⟩ := it_ok l (by omega) x0 x1 x2 (some (.val (.int k))) x5 x6 x7 x8 x9 x10 x11
    have := p.2
    obtain ⟨y3, y4, y5, y6, y7, y8, y9, y10, y11, e2⟩ := ih (k + 1) l1 (some (.val (.int k))) z5 z6 z7 z8 z9 z10 z11 (by omega)
    refine ⟨y3, y4, y5, y6, y7, y8, y9, y10, y11, ?_⟩
    have ep : asgR 4 (.tmp (.val (.int k))) [x0, x1, x2, some (.lst none (l.map .int)), x4, x5, x6, x7, x8, x9, x10, x11] = .ok () [x0, x1, x2, some (.lst none (l.map .int)), some (.val (.int k)), x5, x6, x7, x8, x9, x10, x11] := by simp
    rw [irange_cons, forM_cons, bind_ap, ep, bnd_ok, e1, bnd_ok, loop_nx]
    exact e2
noncomputable abbrev ouM : M Fl := (seqM (setS 2 (callF f__law_cell (argC (getM 0) (argC (getM 1) (argN)))))
  (seqM (setS 3 (callF f__law_row (argC (getM 2) (argC (cst (.int 41)) (argC (cst (.int 1400)) (argN))))))
  (forS (asgR 4) (itR1 (argC (cst (.int 4)) (argN))) itM)))
theorem ou_ok (ns : List Int) (k : Nat) (x2 x3 x4 x5 x6 x7 x8 x9 x10 x11 : Option T) : ∃ y2 y3 y4 y5 y6 y7 y8 y9 y10 y11, ouM [some (.val (.list (ns.map .int))), some (.val (.int k)), x2, x3, x4, x5, x6, x7, x8, x9, x10, x11] =
    .ok .nx [some (.val (.list (ns.map .int))), some (.val (.int k)), y2, y3, y4, y5, y6, y7, y8, y9, y10, y11] := by
  have hc := cell_ok ns k
  obtain ⟨r, r1, _, r3⟩ := row_ok (c := ns.getD k 0) (b := 41) (n := 1400) (by decide) ⟨by decide, by decide⟩ (by decide)
  have r3' : DL.f_row [.int (ns.getD k 0), .int 41, .int 1400] = .ok (.lst none (r.map .int)) := r3
  obtain ⟨y3, y4, y5, y6, y7, y8, y9, y10, y11, e⟩ := it_loop (some (.val (.list (ns.map .int)))) (some (.val (.int k))) (some (.val (.int (ns.getD k 0)))) 4 0 r x4 x5 x6 x7 x8 x9 x10 x11 (by omega)
  have hrn := fun ρ => rng_nat ρ (n := 4) (by decide)
  rw [← e_cell] at hc
  rw [← e_row] at r3'
  refine ⟨some (.val (.int (ns.getD k 0))), y3, y4, y5, y6, y7, y8, y9, y10, y11, ?_⟩
  simp only [Int.natCast_zero] at e
  generalize ns.map PyData.int = N at *
  generalize ns.getD k 0 = c at *
  generalize r.map PyData.int = RR at *
  have h1 : setS 2 (callF f__law_cell (argC (getM 0) (argC (getM 1) (argN)))) [some (.val (.list N)), some (.val (.int k)), x2, x3, x4, x5, x6, x7, x8, x9, x10, x11] = .ok .nx [some (.val (.list N)), some (.val (.int k)), some (.val (.int c)), x3, x4, x5, x6, x7, x8, x9, x10, x11] := by simp [hc]
  have h2 : setS 3 (callF f__law_row (argC (getM 2) (argC (cst (.int 41)) (argC (cst (.int 1400)) (argN))))) [some (.val (.list N)), some (.val (.int k)), some (.val (.int c)), x3, x4, x5, x6, x7, x8, x9, x10, x11] = .ok .nx [some (.val (.list N)), some (.val (.int k)), some (.val (.int c)), some (.lst none RR), x4, x5, x6, x7, x8, x9, x10, x11] := by simp [r3']
  unfold ouM
  rw [seq_ap, h1, bnd_ok, then_nx, seq_ap, h2, bnd_ok, then_nx]
  generalize itM = im at *
  have hr4 : ∀ ρ, rngO ρ (some (.int 4)) = .ok (irange 0 4) ρ := hrn
  simp [hr4, e]
theorem law_true (ns : List Int) (hn : ns.length ≤ 63) : f_law [.list (ns.map .int)] = .ok (.val (.bool true)) := by
  have loop : ∀ (m k : Nat) (x1 x2 x3 x4 x5 x6 x7 x8 x9 x10 x11 : Option T), ∃ y1 y2 y3 y4 y5 y6 y7 y8 y9 y10 y11, forM (asgR 1) ouM (irange (k : Int) m) [some (.val (.list (ns.map .int))), x1, x2, x3, x4, x5, x6, x7, x8, x9, x10, x11] = .ok .nx [some (.val (.list (ns.map .int))), y1, y2, y3, y4, y5, y6, y7, y8, y9, y10, y11] := by
    intro m
    induction m with
    | zero => exact fun k x1 x2 x3 x4 x5 x6 x7 x8 x9 x10 x11 => ⟨_, _, _, _, _, _, _, _, _, _, _, rfl⟩
    | succ m ih =>
      intro k x1 x2 x3 x4 x5 x6 x7 x8 x9 x10 x11
      obtain ⟨z2, z3, z4, z5, z6, z7, z8, z9, z10, z11, e⟩ := ou_ok ns k x2 x3 x4 x5 x6 x7 x8 x9 x10 x11
      obtain ⟨y1, y2, y3, y4, y5, y6, y7, y8, y9, y10, y11, e2⟩ := ih (k + 1) (some (.val (.int k))) z2 z3 z4 z5 z6 z7 z8 z9 z10 z11
      refine ⟨y1, y2, y3, y4, y5, y6, y7, y8, y9, y10, y11, ?_⟩
      have ep : asgR 1 (.tmp (.val (.int k))) [some (.val (.list (ns.map .int))), x1, x2, x3, x4, x5, x6, x7, x8, x9, x10, x11] = .ok () [some (.val (.list (ns.map .int))), some (.val (.int k)), x2, x3, x4, x5, x6, x7, x8, x9, x10, x11] := by simp
      rw [irange_cons, forM_cons, bind_ap, ep, bnd_ok, e, bnd_ok, loop_nx]
      exact e2
  obtain ⟨n, hn6, _, hmin, hmax⟩ := min_max 5 (by decide) ns.length
  rw [← List.length_map (f := PyData.int)] at hmin hmax
  obtain ⟨y1, y2, y3, y4, y5, y6, y7, y8, y9, y10, y11, e⟩ := loop n 0 none none none none none none none none none none none
  have hrn := fun ρ => rng_nat ρ (n := n) (by omega)
  unfold f_law m_law
  rw [run_eq]
  simp only [ouM, itM, beM, hdM, Int.natCast_zero] at e
  generalize ns.map PyData.int = N at *
  simp [hmin, hmax, hrn, e]
end K84

set_option Elab.async false
set_option maxRecDepth 100000
set_option maxHeartbeats 0
namespace K84
open PySem PySem.Spec PyProof.Rows L2 DL
/-! ### the head -/
def d__law_cell : He.DefD := ⟨("_law_cell", none), "_law_cell", "_law_cell", defArgs s__law_cell, defBody s__law_cell, defScope s__law_cell, [], []⟩
def d__law_mixed : He.DefD := ⟨("_law_mixed", none), "_law_mixed", "_law_mixed", defArgs s__law_mixed, defBody s__law_mixed, defScope s__law_mixed, [], []⟩
def d__law_digits : He.DefD := ⟨("_law_digits", none), "_law_digits", "_law_digits", defArgs s__law_digits, defBody s__law_digits, defScope s__law_digits, [], []⟩
def d__law_row : He.DefD := ⟨("_law_row", none), "_law_row", "_law_row", defArgs s__law_row, defBody s__law_row, defScope s__law_row, [], []⟩
def d__law_thing : He.DefD := ⟨("_law_thing", none), "_law_thing", "_law_thing", defArgs s__law_thing, defBody s__law_thing, defScope s__law_thing, [], []⟩
def d_ask : He.DefD := ⟨("ask", none), "ask", "ask", defArgs s_ask, defBody s_ask, defScope s_ask, [], []⟩
def d_is_whole : He.DefD := ⟨("is_whole", none), "is_whole", "is_whole", defArgs s_is_whole, defBody s_is_whole, defScope s_is_whole, [], []⟩
def d_common_part : He.DefD := ⟨("common_part", none), "common_part", "common_part", defArgs s_common_part, defBody s_common_part, defScope s_common_part, [], []⟩
def d_is_fraction : He.DefD := ⟨("is_fraction", none), "is_fraction", "is_fraction", defArgs s_is_fraction, defBody s_is_fraction, defScope s_is_fraction, [], []⟩
def d_cross : He.DefD := ⟨("cross", none), "cross", "cross", defArgs s_cross, defBody s_cross, defScope s_cross, [], []⟩
def d_are_neighbours : He.DefD := ⟨("are_neighbours", none), "are_neighbours", "are_neighbours", defArgs s_are_neighbours, defBody s_are_neighbours, defScope s_are_neighbours, [], []⟩
def d_is_above : He.DefD := ⟨("is_above", none), "is_above", "is_above", defArgs s_is_above, defBody s_is_above, defScope s_is_above, [], []⟩
def d_fits_fraction : He.DefD := ⟨("fits_fraction", none), "fits_fraction", "fits_fraction", defArgs s_fits_fraction, defBody s_fits_fraction, defScope s_fits_fraction, [], []⟩
def d_look_at_fractions : He.DefD := ⟨("look_at_fractions", none), "look_at_fractions", "look_at_fractions", defArgs s_look_at_fractions, defBody s_look_at_fractions, defScope s_look_at_fractions, [], []⟩
def d_fits_mark : He.DefD := ⟨("fits_mark", none), "fits_mark", "fits_mark", defArgs s_fits_mark, defBody s_fits_mark, defScope s_fits_mark, [], []⟩
def d_many_places : He.DefD := ⟨("many_places", none), "many_places", "many_places", defArgs s_many_places, defBody s_many_places, defScope s_many_places, [], []⟩
def d_look : He.DefD := ⟨("look", none), "look", "look", defArgs s_look, defBody s_look, defScope s_look, [], []⟩
def d_is_fan : He.DefD := ⟨("is_fan", none), "is_fan", "is_fan", defArgs s_is_fan, defBody s_is_fan, defScope s_is_fan, [], []⟩
def d_is_turning : He.DefD := ⟨("is_turning", none), "is_turning", "is_turning", defArgs s_is_turning, defBody s_is_turning, defScope s_is_turning, [], []⟩
def d_own_power : He.DefD := ⟨("own_power", none), "own_power", "own_power", defArgs s_own_power, defBody s_own_power, defScope s_own_power, [], []⟩
def d_is_short_row : He.DefD := ⟨("is_short_row", none), "is_short_row", "is_short_row", defArgs s_is_short_row, defBody s_is_short_row, defScope s_is_short_row, [], []⟩
def d_is_glue : He.DefD := ⟨("is_glue", none), "is_glue", "is_glue", defArgs s_is_glue, defBody s_is_glue, defScope s_is_glue, [], []⟩
def d_are_glues : He.DefD := ⟨("are_glues", none), "are_glues", "are_glues", defArgs s_are_glues, defBody s_are_glues, defScope s_are_glues, [], []⟩
def d_turning : He.DefD := ⟨("turning", none), "turning", "turning", defArgs s_turning, defBody s_turning, defScope s_turning, [], []⟩
def d_times : He.DefD := ⟨("times", none), "times", "times", defArgs s_times, defBody s_times, defScope s_times, [], []⟩
def d_contrary : He.DefD := ⟨("contrary", none), "contrary", "contrary", defArgs s_contrary, defBody s_contrary, defScope s_contrary, [], []⟩
def d_power_of : He.DefD := ⟨("power_of", none), "power_of", "power_of", defArgs s_power_of, defBody s_power_of, defScope s_power_of, [], []⟩
def d_gap_edge : He.DefD := ⟨("gap_edge", none), "gap_edge", "gap_edge", defArgs s_gap_edge, defBody s_gap_edge, defScope s_gap_edge, [], []⟩
def d_turning_between : He.DefD := ⟨("turning_between", none), "turning_between", "turning_between", defArgs s_turning_between, defBody s_turning_between, defScope s_turning_between, [], []⟩
def d_gap_turning : He.DefD := ⟨("gap_turning", none), "gap_turning", "gap_turning", defArgs s_gap_turning, defBody s_gap_turning, defScope s_gap_turning, [], []⟩
def d_carried : He.DefD := ⟨("carried", none), "carried", "carried", defArgs s_carried, defBody s_carried, defScope s_carried, [], []⟩
def d_glue : He.DefD := ⟨("glue", none), "glue", "glue", defArgs s_glue, defBody s_glue, defScope s_glue, [], []⟩
def d_row_turning : He.DefD := ⟨("row_turning", none), "row_turning", "row_turning", defArgs s_row_turning, defBody s_row_turning, defScope s_row_turning, [], []⟩
def d_look_in : He.DefD := ⟨("look_in", none), "look_in", "look_in", defArgs s_look_in, defBody s_look_in, defScope s_look_in, [], []⟩
def d_met_from : He.DefD := ⟨("met_from", none), "met_from", "met_from", defArgs s_met_from, defBody s_met_from, defScope s_met_from, [], []⟩
def d_goes_back : He.DefD := ⟨("goes_back", none), "goes_back", "goes_back", defArgs s_goes_back, defBody s_goes_back, defScope s_goes_back, [], []⟩
def d_is_number : He.DefD := ⟨("is_number", none), "is_number", "is_number", defArgs s_is_number, defBody s_is_number, defScope s_is_number, [], []⟩
def d_is_table : He.DefD := ⟨("is_table", none), "is_table", "is_table", defArgs s_is_table, defBody s_is_table, defScope s_is_table, [], []⟩
def d_is_word : He.DefD := ⟨("is_word", none), "is_word", "is_word", defArgs s_is_word, defBody s_is_word, defScope s_is_word, [], []⟩
def d_word_leads : He.DefD := ⟨("word_leads", none), "word_leads", "word_leads", defArgs s_word_leads, defBody s_word_leads, defScope s_word_leads, [], []⟩
def d_look_out : He.DefD := ⟨("look_out", none), "look_out", "look_out", defArgs s_look_out, defBody s_look_out, defScope s_look_out, [], []⟩
def d_put_behind : He.DefD := ⟨("put_behind", none), "put_behind", "put_behind", defArgs s_put_behind, defBody s_put_behind, defScope s_put_behind, [], []⟩
def d_shortened : He.DefD := ⟨("shortened", none), "shortened", "shortened", defArgs s_shortened, defBody s_shortened, defScope s_shortened, [], []⟩
def d_steps_word : He.DefD := ⟨("steps_word", none), "steps_word", "steps_word", defArgs s_steps_word, defBody s_steps_word, defScope s_steps_word, [], []⟩
def d_steps_of : He.DefD := ⟨("steps_of", none), "steps_of", "steps_of", defArgs s_steps_of, defBody s_steps_of, defScope s_steps_of, [], []⟩
def d_word_of : He.DefD := ⟨("word_of", none), "word_of", "word_of", defArgs s_word_of, defBody s_word_of, defScope s_word_of, [], []⟩
def d_short_word : He.DefD := ⟨("short_word", none), "short_word", "short_word", defArgs s_short_word, defBody s_short_word, defScope s_short_word, [], []⟩
def d_keeps : He.DefD := ⟨("keeps", none), "keeps", "keeps", defArgs s_keeps, defBody s_keeps, defScope s_keeps, [], []⟩
def d_look_same : He.DefD := ⟨("look_same", none), "look_same", "look_same", defArgs s_look_same, defBody s_look_same, defScope s_look_same, [], []⟩
def d_is_nothing_by : He.DefD := ⟨("is_nothing_by", none), "is_nothing_by", "is_nothing_by", defArgs s_is_nothing_by, defBody s_is_nothing_by, defScope s_is_nothing_by, [], []⟩
def d_look_leaver : He.DefD := ⟨("look_leaver", none), "look_leaver", "look_leaver", defArgs s_look_leaver, defBody s_look_leaver, defScope s_look_leaver, [], []⟩
def d_looked : He.DefD := ⟨("looked", none), "looked", "looked", defArgs s_looked, defBody s_looked, defScope s_looked, [], []⟩
def d__law_failed : He.DefD := ⟨("_law_failed", none), "_law_failed", "_law_failed", defArgs s__law_failed, defBody s__law_failed, defScope s__law_failed, [], []⟩
def d_law : He.DefD := ⟨("law", none), "law", "law", defArgs s_law, defBody s_law, defScope s_law, [], []⟩
def d_iNoPaper : He.DefD := ⟨("NoPaper", some "__init__"), "__init__", "NoPaper.__init__", defArgs s_iNoPaper, defBody s_iNoPaper, defScope s_iNoPaper, [], []⟩
def d_iNoFan : He.DefD := ⟨("NoFan", some "__init__"), "__init__", "NoFan.__init__", defArgs s_iNoFan, defBody s_iNoFan, defScope s_iNoFan, [], []⟩
def fn : List He.DefD := ([d__law_cell, d__law_mixed, d__law_digits, d__law_row, d__law_thing, d_ask, d_is_whole, d_common_part, d_is_fraction, d_cross, d_are_neighbours, d_is_above, d_fits_fraction, d_look_at_fractions, d_fits_mark, d_many_places, d_look, d_is_fan, d_is_turning, d_own_power, d_is_short_row, d_is_glue, d_are_glues, d_turning, d_times, d_contrary, d_power_of, d_gap_edge, d_turning_between, d_gap_turning] : List He.DefD) ++ ([d_carried, d_glue, d_row_turning, d_look_in, d_met_from, d_goes_back, d_is_number, d_is_table, d_is_word, d_word_leads, d_look_out, d_put_behind, d_shortened, d_steps_word, d_steps_of, d_word_of, d_short_word, d_keeps, d_look_same, d_is_nothing_by, d_look_leaver, d_looked, d__law_failed, d_law, d_iNoPaper, d_iNoFan] : List He.DefD)
def fa : List He.Fa := ([.glo "_law_cell", .glo "_law_mixed", .glo "_law_digits", .glo "_law_row", .glo "_law_thing", .glo "ask", .glo "is_whole", .glo "common_part", .glo "is_fraction", .glo "cross", .glo "are_neighbours", .glo "is_above", .glo "fits_fraction", .glo "look_at_fractions", .glo "fits_mark", .glo "many_places", .glo "look", .glo "is_fan", .glo "is_turning", .glo "own_power", .glo "is_short_row", .glo "is_glue", .glo "are_glues", .glo "turning", .glo "times", .glo "contrary", .glo "power_of", .glo "gap_edge", .glo "turning_between", .glo "gap_turning"] : List He.Fa) ++ ([.glo "carried", .glo "glue", .glo "row_turning", .glo "look_in", .glo "met_from", .glo "goes_back", .glo "is_number", .glo "is_table", .glo "is_word", .glo "word_leads", .glo "look_out", .glo "put_behind", .glo "shortened", .glo "steps_word", .glo "steps_of", .glo "word_of", .glo "short_word", .glo "keeps", .glo "look_same", .glo "is_nothing_by", .glo "look_leaver", .glo "looked", .glo "_law_failed", .glo "law", .free "ValueError", .free "abs", .free "all", .free "any", .free "bool", .free "int"] : List He.Fa) ++ ([.free "isinstance", .free "len", .free "list", .free "max", .free "min", .free "range", .free "str", .free "tuple", .free "zip"] : List He.Fa)
def loose : List Str := (["FanError", "NoTurning", "NoFan", "NoPaper", "NoText", "TooLong", "ENDLESS", "is_whole", "common_part", "is_fraction", "cross", "are_neighbours", "is_above", "NOTHING", "HALF", "THIRD", "NOUGHT", "is_turning", "turning", "times", "contrary", "turning_between", "FEWEST", "MOST_fans", "MOST_PLACES", "many_places", "fits_fraction", "fits_mark", "look_at_fractions", "look"] : List Str) ++ (["gap_edge", "gap_turning", "carried", "glue", "power_of", "row_turning", "own_power", "is_short_row", "MOST_LETTERS", "MOST_RAW", "LETTERS", "POWERS", "THIRDS", "is_word", "put_behind", "shortened", "steps_word", "steps_of", "word_of", "MOST_places", "is_number", "goes_back", "met_from", "is_table", "SIZES", "MOST_TUPLES", "MOST_POWER", "MOST_RESTS", "ask", "is_fan"] : List Str) ++ (["is_glue", "are_glues", "word_leads", "short_word", "keeps", "look_in", "look_out", "look_same", "is_nothing_by", "look_leaver", "looked", "_law_cell", "_law_digits", "_law_mixed", "_law_row", "_law_failed", "_law_thing"] : List Str)
abbrev R : PySem.W.OpenRow := PySem.W.OpenLaw.row PySem.Challenge.rw_fanglue_k84_things_as_papers
def fx (K : PySem.W.Frag) : Bool := (raoB K "NoPaper") && ((He.eqO (PySem.W.findIn K (.ref (He.ga K "NoPaper")) "at") (some none)) && ((inB K "FanError") && ((gRp K "ENDLESS" (.tuple [(.int 1), (.int 0)])) && ((gRp K "FEWEST" (.int 2)) && ((gRp K "MOST_fans" (.int 22)) && ((raoB K "NoFan") && ((He.eqO (PySem.W.findIn K (.ref (He.ga K "NoFan")) "where") (some none)) && ((He.eqO (PySem.W.findIn K (.ref (He.ga K "NoFan")) "at") (some none)) && ((gRp K "NOUGHT" (.tuple [(.int 0), (.int 1)])) && ((gRp K "MOST_PLACES" (.int 60)) && ((He.eqO (PySem.W.nsIn K mainGlobals "NoFan") (some (some (.ref (He.ga K "NoFan"))))) && ((decide (PySem.W.exmOne K (.ref (He.ga K "TooLong")) (.ref (He.ga K "NoFan")) = some false)) && ((He.eqO (PySem.W.nsIn K mainGlobals "TooLong") (some (some (.ref (He.ga K "TooLong"))))) && ((decide (PySem.W.exmOne K (.ref (He.ga K "NoTurning")) (.ref (He.ga K "NoFan")) = some false)) && ((He.eqO (PySem.W.nsIn K mainGlobals "NoTurning") (some (some (.ref (He.ga K "NoTurning"))))) && ((decide (PySem.W.exmOne K (.ref (He.ga K "NoPaper")) (.ref (He.ga K "NoFan")) = some false)) && ((He.eqO (PySem.W.nsIn K mainGlobals "NoPaper") (some (some (.ref (He.ga K "NoPaper"))))) && ((decide (PySem.W.exmOne K (.ref (He.ga K "NoFan")) (.ref (He.ga K "NoFan")) = some true)) && ((gRp K "MOST_POWER" (.int 100)) && ((gRp K "MOST_TUPLES" (.int 100)) && ((excB K "NoTurning") && ((gRp K "NOTHING" (.tuple [(.int 1), (.int 0), (.int 0), (.int 1)])) && ((gRp K "HALF" (.tuple [(.int 0), (.int (-1)), (.int 1), (.int 0)])) && ((gRp K "THIRD" (.tuple [(.int 0), (.int (-1)), (.int 1), (.int (-1))])) && ((gRp K "MOST_places" (.int 60)) && ((gRp K "MOST_LETTERS" (.int 2000)) && ((gRp K "THIRDS" (.tuple [(.str ""), (.str "r"), (.str "q")])) && ((gRp K "MOST_RAW" (.int 12000)) && ((excB K "TooLong") && ((decide (PySem.W.exmOne K (.ref (He.ga K "TooLong")) (.ref (He.ga K "TooLong")) = some true)) && ((decide (PySem.W.exmOne K (.ref (He.ga K "NoTurning")) (.ref (He.ga K "TooLong")) = some false)) && ((decide (PySem.W.exmOne K (.ref (He.ga K "NoPaper")) (.ref (He.ga K "TooLong")) = some false)) && ((decide (PySem.W.exmOne K (.ref (He.ga K "NoFan")) (.ref (He.ga K "TooLong")) = some false)) && ((gRp K "MOST_RESTS" (.int 24)) && ((decide (PySem.W.exmOne K (.ref (He.ga K "TooLong")) (.ref (He.ga K "NoPaper")) = some false)) && ((decide (PySem.W.exmOne K (.ref (He.ga K "NoTurning")) (.ref (He.ga K "NoPaper")) = some false)) && ((decide (PySem.W.exmOne K (.ref (He.ga K "NoPaper")) (.ref (He.ga K "NoPaper")) = some true)) && ((decide (PySem.W.exmOne K (.ref (He.ga K "NoFan")) (.ref (He.ga K "NoPaper")) = some false)) && ((excCB K (He.ga K "NoPaper")) && ((decide (PySem.W.kitOne K (.ref (He.ga K "NoPaper")) (.ref (He.ga K "FanError")) = some true)) && ((He.eqO (PySem.W.nsIn K mainGlobals "FanError") (some (some (.ref (He.ga K "FanError"))))) && ((decide (PySem.W.kitOne K (.ref (He.ga K "NoPaper")) (.type "ValueError") = some true)) && ((decide (PySem.W.kitAny K (.ref (He.ga K "NoPaper")) [.ref (He.ga K "NoFan"), .ref (He.ga K "NoTurning"), .ref (He.ga K "NoText")] = some false)) && ((He.eqO (PySem.W.nsIn K mainGlobals "NoText") (some (some (.ref (He.ga K "NoText"))))) && ((xfB K (He.ga K "NoPaper")) && ((He.eqO (PySem.W.nsIn K mainGlobals "LETTERS") (some (some (.ref (He.ga K "LETTERS")))) && tabV K (He.ga K "LETTERS") [("s", (.tuple [(.int 0), (.int (-1)), (.int 1), (.int 0)])), ("r", (.tuple [(.int 0), (.int (-1)), (.int 1), (.int (-1))])), ("q", (.tuple [(.int 1), (.int (-1)), (.int 1), (.int 0)]))]) && ((He.eqO (PySem.W.nsIn K mainGlobals "POWERS") (some (some (.ref (He.ga K "POWERS")))) && tabV K (He.ga K "POWERS") [("r", (.int 1)), ("q", (.int 2))]) && ((He.eqO (PySem.W.nsIn K mainGlobals "SIZES") (some (some (.ref (He.ga K "SIZES")))) && tabV K (He.ga K "SIZES") [("in", (.int 4)), ("out", (.int 4)), ("same", (.int 3)), ("leaver", (.int 4))])))))))))))))))))))))))))))))))))))))))))))))))))
def ts : List TabN := [("LETTERS", ["s", "r", "q"]), ("POWERS", ["r", "q"]), ("SIZES", ["in", "out", "same", "leaver"])]
abbrev hk : PySem.W.Hook := hookYS 5 fx fa fn ts
def ob (s : PySem.W.SharedT) : AlY := obsYS 5 fx fa fn ts (HandSHeadRun.getT s)
theorem ob_eq (s : PySem.W.SharedT) : ob s = hk.obs s.abs := obsYS_eq (HandSHeadRun.getT_eq s)
theorem runfalse (w : World) : HandSHeadRun.RunEq R (PySem.W.view R.prog [86]) hk ob 14000 loose (w.withFollow "special-get-raises" false) := by
  intro os
  kernel_rfl
theorem runtrue (w : World) : HandSHeadRun.RunEq R (PySem.W.view R.prog [86]) hk ob 14000 loose (w.withFollow "special-get-raises" true) := by
  intro os
  kernel_rfl
theorem run (w : World) : HandSHeadRun.RunEq R (PySem.W.view R.prog [86]) hk ob 14000 loose w := PySem.W.byRow2 "special-get-raises" runfalse runtrue w
theorem facts {w : World} {K : PySem.W.Frag} {h : Heap} {mg : Str → Option Value} (X : K.In h) (G : h.Ns mainGlobals mg) (cy : SaysY fx fa fn ts w K) : ∃ c : Facts w K mg, True := by
  have cx : SaysX fx fa fn K := cy.x
  obtain ⟨cc, hx⟩ := cx.says
  unfold fx at hx
  obtain ⟨h_0, hx⟩ := (Bool.and_eq_true _ _).mp hx
  obtain ⟨h_1, hx⟩ := (Bool.and_eq_true _ _).mp hx
  obtain ⟨h_2, hx⟩ := (Bool.and_eq_true _ _).mp hx
  obtain ⟨h_3, hx⟩ := (Bool.and_eq_true _ _).mp hx
  obtain ⟨h_4, hx⟩ := (Bool.and_eq_true _ _).mp hx
  obtain ⟨h_5, hx⟩ := (Bool.and_eq_true _ _).mp hx
  obtain ⟨h_6, hx⟩ := (Bool.and_eq_true _ _).mp hx
  obtain ⟨h_7, hx⟩ := (Bool.and_eq_true _ _).mp hx
  obtain ⟨h_8, hx⟩ := (Bool.and_eq_true _ _).mp hx
  obtain ⟨h_9, hx⟩ := (Bool.and_eq_true _ _).mp hx
  obtain ⟨h_10, hx⟩ := (Bool.and_eq_true _ _).mp hx
  obtain ⟨h_11, hx⟩ := (Bool.and_eq_true _ _).mp hx
  obtain ⟨h_12, hx⟩ := (Bool.and_eq_true _ _).mp hx
  obtain ⟨h_13, hx⟩ := (Bool.and_eq_true _ _).mp hx
  obtain ⟨h_14, hx⟩ := (Bool.and_eq_true _ _).mp hx
  obtain ⟨h_15, hx⟩ := (Bool.and_eq_true _ _).mp hx
  obtain ⟨h_16, hx⟩ := (Bool.and_eq_true _ _).mp hx
  obtain ⟨h_17, hx⟩ := (Bool.and_eq_true _ _).mp hx
  obtain ⟨h_18, hx⟩ := (Bool.and_eq_true _ _).mp hx
  obtain ⟨h_19, hx⟩ := (Bool.and_eq_true _ _).mp hx
  obtain ⟨h_20, hx⟩ := (Bool.and_eq_true _ _).mp hx
  obtain ⟨h_21, hx⟩ := (Bool.and_eq_true _ _).mp hx
  obtain ⟨h_22, hx⟩ := (Bool.and_eq_true _ _).mp hx
  obtain ⟨h_23, hx⟩ := (Bool.and_eq_true _ _).mp hx
  obtain ⟨h_24, hx⟩ := (Bool.and_eq_true _ _).mp hx
  obtain ⟨h_25, hx⟩ := (Bool.and_eq_true _ _).mp hx
  obtain ⟨h_26, hx⟩ := (Bool.and_eq_true _ _).mp hx
  obtain ⟨h_27, hx⟩ := (Bool.and_eq_true _ _).mp hx
  obtain ⟨h_28, hx⟩ := (Bool.and_eq_true _ _).mp hx
  obtain ⟨h_29, hx⟩ := (Bool.and_eq_true _ _).mp hx
  obtain ⟨h_30, hx⟩ := (Bool.and_eq_true _ _).mp hx
  obtain ⟨h_31, hx⟩ := (Bool.and_eq_true _ _).mp hx
  obtain ⟨h_32, hx⟩ := (Bool.and_eq_true _ _).mp hx
  obtain ⟨h_33, hx⟩ := (Bool.and_eq_true _ _).mp hx
  obtain ⟨h_34, hx⟩ := (Bool.and_eq_true _ _).mp hx
  obtain ⟨h_35, hx⟩ := (Bool.and_eq_true _ _).mp hx
  obtain ⟨h_36, hx⟩ := (Bool.and_eq_true _ _).mp hx
  obtain ⟨h_37, hx⟩ := (Bool.and_eq_true _ _).mp hx
  obtain ⟨h_38, hx⟩ := (Bool.and_eq_true _ _).mp hx
  obtain ⟨h_39, hx⟩ := (Bool.and_eq_true _ _).mp hx
  obtain ⟨h_40, hx⟩ := (Bool.and_eq_true _ _).mp hx
  obtain ⟨h_41, hx⟩ := (Bool.and_eq_true _ _).mp hx
  obtain ⟨h_42, hx⟩ := (Bool.and_eq_true _ _).mp hx
  obtain ⟨h_43, hx⟩ := (Bool.and_eq_true _ _).mp hx
  obtain ⟨h_44, hx⟩ := (Bool.and_eq_true _ _).mp hx
  obtain ⟨h_45, hx⟩ := (Bool.and_eq_true _ _).mp hx
  obtain ⟨h_46, hx⟩ := (Bool.and_eq_true _ _).mp hx
  obtain ⟨h_47, hx⟩ := (Bool.and_eq_true _ _).mp hx
  have h_48 := hx
  have dummy := trivial
  obtain ⟨fd0, F0⟩ := cc.def_ 0 (d := d__law_cell) rfl
  obtain ⟨fd1, F1⟩ := cc.def_ 1 (d := d__law_mixed) rfl
  obtain ⟨fd2, F2⟩ := cc.def_ 2 (d := d__law_digits) rfl
  obtain ⟨fd3, F3⟩ := cc.def_ 3 (d := d__law_row) rfl
  obtain ⟨fd4, F4⟩ := cc.def_ 4 (d := d__law_thing) rfl
  obtain ⟨fd5, F5⟩ := cc.def_ 5 (d := d_ask) rfl
  obtain ⟨fd6, F6⟩ := cc.def_ 6 (d := d_is_whole) rfl
  obtain ⟨fd7, F7⟩ := cc.def_ 7 (d := d_common_part) rfl
  obtain ⟨fd8, F8⟩ := cc.def_ 8 (d := d_is_fraction) rfl
  obtain ⟨fd9, F9⟩ := cc.def_ 9 (d := d_cross) rfl
  obtain ⟨fd10, F10⟩ := cc.def_ 10 (d := d_are_neighbours) rfl
  obtain ⟨fd11, F11⟩ := cc.def_ 11 (d := d_is_above) rfl
  obtain ⟨fd12, F12⟩ := cc.def_ 12 (d := d_fits_fraction) rfl
  obtain ⟨fd13, F13⟩ := cc.def_ 13 (d := d_look_at_fractions) rfl
  obtain ⟨fd14, F14⟩ := cc.def_ 14 (d := d_fits_mark) rfl
  obtain ⟨fd15, F15⟩ := cc.def_ 15 (d := d_many_places) rfl
  obtain ⟨fd16, F16⟩ := cc.def_ 16 (d := d_look) rfl
  obtain ⟨fd17, F17⟩ := cc.def_ 17 (d := d_is_fan) rfl
  obtain ⟨fd18, F18⟩ := cc.def_ 18 (d := d_is_turning) rfl
  obtain ⟨fd19, F19⟩ := cc.def_ 19 (d := d_own_power) rfl
  obtain ⟨fd20, F20⟩ := cc.def_ 20 (d := d_is_short_row) rfl
  obtain ⟨fd21, F21⟩ := cc.def_ 21 (d := d_is_glue) rfl
  obtain ⟨fd22, F22⟩ := cc.def_ 22 (d := d_are_glues) rfl
  obtain ⟨fd23, F23⟩ := cc.def_ 23 (d := d_turning) rfl
  obtain ⟨fd24, F24⟩ := cc.def_ 24 (d := d_times) rfl
  obtain ⟨fd25, F25⟩ := cc.def_ 25 (d := d_contrary) rfl
  obtain ⟨fd26, F26⟩ := cc.def_ 26 (d := d_power_of) rfl
  obtain ⟨fd27, F27⟩ := cc.def_ 27 (d := d_gap_edge) rfl
  obtain ⟨fd28, F28⟩ := cc.def_ 28 (d := d_turning_between) rfl
  obtain ⟨fd29, F29⟩ := cc.def_ 29 (d := d_gap_turning) rfl
  obtain ⟨fd30, F30⟩ := cc.def_ 30 (d := d_carried) rfl
  obtain ⟨fd31, F31⟩ := cc.def_ 31 (d := d_glue) rfl
  obtain ⟨fd32, F32⟩ := cc.def_ 32 (d := d_row_turning) rfl
  obtain ⟨fd33, F33⟩ := cc.def_ 33 (d := d_look_in) rfl
  obtain ⟨fd34, F34⟩ := cc.def_ 34 (d := d_met_from) rfl
  obtain ⟨fd35, F35⟩ := cc.def_ 35 (d := d_goes_back) rfl
  obtain ⟨fd36, F36⟩ := cc.def_ 36 (d := d_is_number) rfl
  obtain ⟨fd37, F37⟩ := cc.def_ 37 (d := d_is_table) rfl
  obtain ⟨fd38, F38⟩ := cc.def_ 38 (d := d_is_word) rfl
  obtain ⟨fd39, F39⟩ := cc.def_ 39 (d := d_word_leads) rfl
  obtain ⟨fd40, F40⟩ := cc.def_ 40 (d := d_look_out) rfl
  obtain ⟨fd41, F41⟩ := cc.def_ 41 (d := d_put_behind) rfl
  obtain ⟨fd42, F42⟩ := cc.def_ 42 (d := d_shortened) rfl
  obtain ⟨fd43, F43⟩ := cc.def_ 43 (d := d_steps_word) rfl
  obtain ⟨fd44, F44⟩ := cc.def_ 44 (d := d_steps_of) rfl
  obtain ⟨fd45, F45⟩ := cc.def_ 45 (d := d_word_of) rfl
  obtain ⟨fd46, F46⟩ := cc.def_ 46 (d := d_short_word) rfl
  obtain ⟨fd47, F47⟩ := cc.def_ 47 (d := d_keeps) rfl
  obtain ⟨fd48, F48⟩ := cc.def_ 48 (d := d_look_same) rfl
  obtain ⟨fd49, F49⟩ := cc.def_ 49 (d := d_is_nothing_by) rfl
  obtain ⟨fd50, F50⟩ := cc.def_ 50 (d := d_look_leaver) rfl
  obtain ⟨fd51, F51⟩ := cc.def_ 51 (d := d_looked) rfl
  obtain ⟨fd52, F52⟩ := cc.def_ 52 (d := d__law_failed) rfl
  obtain ⟨fd53, F53⟩ := cc.def_ 53 (d := d_law) rfl
  obtain ⟨fd54, F54⟩ := cc.def_ 54 (d := d_iNoPaper) rfl
  obtain ⟨fd55, F55⟩ := cc.def_ 55 (d := d_iNoFan) rfl
  exact ⟨⟨_, fd0, F0, He.glo_ok X G (cc.fact 0 (f := .glo "_law_cell") rfl),
    _, fd1, F1, He.glo_ok X G (cc.fact 1 (f := .glo "_law_mixed") rfl),
    _, fd2, F2, He.glo_ok X G (cc.fact 2 (f := .glo "_law_digits") rfl),
    _, fd3, F3, He.glo_ok X G (cc.fact 3 (f := .glo "_law_row") rfl),
    _, fd4, F4, He.glo_ok X G (cc.fact 4 (f := .glo "_law_thing") rfl),
    _, fd5, F5, He.glo_ok X G (cc.fact 5 (f := .glo "ask") rfl),
    _, fd6, F6, He.glo_ok X G (cc.fact 6 (f := .glo "is_whole") rfl),
    _, fd7, F7, He.glo_ok X G (cc.fact 7 (f := .glo "common_part") rfl),
    _, fd8, F8, He.glo_ok X G (cc.fact 8 (f := .glo "is_fraction") rfl),
    _, fd9, F9, He.glo_ok X G (cc.fact 9 (f := .glo "cross") rfl),
    _, fd10, F10, He.glo_ok X G (cc.fact 10 (f := .glo "are_neighbours") rfl),
    _, fd11, F11, He.glo_ok X G (cc.fact 11 (f := .glo "is_above") rfl),
    _, fd12, F12, He.glo_ok X G (cc.fact 12 (f := .glo "fits_fraction") rfl),
    _, fd13, F13, He.glo_ok X G (cc.fact 13 (f := .glo "look_at_fractions") rfl),
    _, fd14, F14, He.glo_ok X G (cc.fact 14 (f := .glo "fits_mark") rfl),
    _, fd15, F15, He.glo_ok X G (cc.fact 15 (f := .glo "many_places") rfl),
    _, fd16, F16, He.glo_ok X G (cc.fact 16 (f := .glo "look") rfl),
    _, fd17, F17, He.glo_ok X G (cc.fact 17 (f := .glo "is_fan") rfl),
    _, fd18, F18, He.glo_ok X G (cc.fact 18 (f := .glo "is_turning") rfl),
    _, fd19, F19, He.glo_ok X G (cc.fact 19 (f := .glo "own_power") rfl),
    _, fd20, F20, He.glo_ok X G (cc.fact 20 (f := .glo "is_short_row") rfl),
    _, fd21, F21, He.glo_ok X G (cc.fact 21 (f := .glo "is_glue") rfl),
    _, fd22, F22, He.glo_ok X G (cc.fact 22 (f := .glo "are_glues") rfl),
    _, fd23, F23, He.glo_ok X G (cc.fact 23 (f := .glo "turning") rfl),
    _, fd24, F24, He.glo_ok X G (cc.fact 24 (f := .glo "times") rfl),
    _, fd25, F25, He.glo_ok X G (cc.fact 25 (f := .glo "contrary") rfl),
    _, fd26, F26, He.glo_ok X G (cc.fact 26 (f := .glo "power_of") rfl),
    _, fd27, F27, He.glo_ok X G (cc.fact 27 (f := .glo "gap_edge") rfl),
    _, fd28, F28, He.glo_ok X G (cc.fact 28 (f := .glo "turning_between") rfl),
    _, fd29, F29, He.glo_ok X G (cc.fact 29 (f := .glo "gap_turning") rfl),
    _, fd30, F30, He.glo_ok X G (cc.fact 30 (f := .glo "carried") rfl),
    _, fd31, F31, He.glo_ok X G (cc.fact 31 (f := .glo "glue") rfl),
    _, fd32, F32, He.glo_ok X G (cc.fact 32 (f := .glo "row_turning") rfl),
    _, fd33, F33, He.glo_ok X G (cc.fact 33 (f := .glo "look_in") rfl),
    _, fd34, F34, He.glo_ok X G (cc.fact 34 (f := .glo "met_from") rfl),
    _, fd35, F35, He.glo_ok X G (cc.fact 35 (f := .glo "goes_back") rfl),
    _, fd36, F36, He.glo_ok X G (cc.fact 36 (f := .glo "is_number") rfl),
    _, fd37, F37, He.glo_ok X G (cc.fact 37 (f := .glo "is_table") rfl),
    _, fd38, F38, He.glo_ok X G (cc.fact 38 (f := .glo "is_word") rfl),
    _, fd39, F39, He.glo_ok X G (cc.fact 39 (f := .glo "word_leads") rfl),
    _, fd40, F40, He.glo_ok X G (cc.fact 40 (f := .glo "look_out") rfl),
    _, fd41, F41, He.glo_ok X G (cc.fact 41 (f := .glo "put_behind") rfl),
    _, fd42, F42, He.glo_ok X G (cc.fact 42 (f := .glo "shortened") rfl),
    _, fd43, F43, He.glo_ok X G (cc.fact 43 (f := .glo "steps_word") rfl),
    _, fd44, F44, He.glo_ok X G (cc.fact 44 (f := .glo "steps_of") rfl),
    _, fd45, F45, He.glo_ok X G (cc.fact 45 (f := .glo "word_of") rfl),
    _, fd46, F46, He.glo_ok X G (cc.fact 46 (f := .glo "short_word") rfl),
    _, fd47, F47, He.glo_ok X G (cc.fact 47 (f := .glo "keeps") rfl),
    _, fd48, F48, He.glo_ok X G (cc.fact 48 (f := .glo "look_same") rfl),
    _, fd49, F49, He.glo_ok X G (cc.fact 49 (f := .glo "is_nothing_by") rfl),
    _, fd50, F50, He.glo_ok X G (cc.fact 50 (f := .glo "look_leaver") rfl),
    _, fd51, F51, He.glo_ok X G (cc.fact 51 (f := .glo "looked") rfl),
    _, fd52, F52, He.glo_ok X G (cc.fact 52 (f := .glo "_law_failed") rfl),
    _, fd53, F53, He.glo_ok X G (cc.fact 53 (f := .glo "law") rfl),
    _, fd54, F54,
    _, fd55, F55,
    He.free_ok X G (cc.fact 54 (f := .free "ValueError") rfl),
    He.free_ok X G (cc.fact 55 (f := .free "abs") rfl),
    He.free_ok X G (cc.fact 56 (f := .free "all") rfl),
    He.free_ok X G (cc.fact 57 (f := .free "any") rfl),
    He.free_ok X G (cc.fact 58 (f := .free "bool") rfl),
    He.free_ok X G (cc.fact 59 (f := .free "int") rfl),
    He.free_ok X G (cc.fact 60 (f := .free "isinstance") rfl),
    He.free_ok X G (cc.fact 61 (f := .free "len") rfl),
    He.free_ok X G (cc.fact 62 (f := .free "list") rfl),
    He.free_ok X G (cc.fact 63 (f := .free "max") rfl),
    He.free_ok X G (cc.fact 64 (f := .free "min") rfl),
    He.free_ok X G (cc.fact 65 (f := .free "range") rfl),
    He.free_ok X G (cc.fact 66 (f := .free "str") rfl),
    He.free_ok X G (cc.fact 67 (f := .free "tuple") rfl),
    He.free_ok X G (cc.fact 68 (f := .free "zip") rfl),
    raoB_ok X G h_0,
    He.eqO_ok h_1,
    inB_ok X G h_2,
    gRp_ok X G h_3,
    gRp_ok X G h_4,
    gRp_ok X G h_5,
    raoB_ok X G h_6,
    He.eqO_ok h_7,
    He.eqO_ok h_8,
    gRp_ok X G h_9,
    gRp_ok X G h_10,
    PySem.W.mg_of X G (He.eqO_ok h_11),
    of_decide_eq_true h_12,
    PySem.W.mg_of X G (He.eqO_ok h_13),
    of_decide_eq_true h_14,
    PySem.W.mg_of X G (He.eqO_ok h_15),
    of_decide_eq_true h_16,
    PySem.W.mg_of X G (He.eqO_ok h_17),
    of_decide_eq_true h_18,
    gRp_ok X G h_19,
    gRp_ok X G h_20,
    excB_ok X G h_21,
    gRp_ok X G h_22,
    gRp_ok X G h_23,
    gRp_ok X G h_24,
    gRp_ok X G h_25,
    gRp_ok X G h_26,
    gRp_ok X G h_27,
    gRp_ok X G h_28,
    excB_ok X G h_29,
    of_decide_eq_true h_30,
    of_decide_eq_true h_31,
    of_decide_eq_true h_32,
    of_decide_eq_true h_33,
    gRp_ok X G h_34,
    of_decide_eq_true h_35,
    of_decide_eq_true h_36,
    of_decide_eq_true h_37,
    of_decide_eq_true h_38,
    excCB_ok h_39,
    of_decide_eq_true h_40,
    PySem.W.mg_of X G (He.eqO_ok h_41),
    of_decide_eq_true h_42,
    of_decide_eq_true h_43,
    PySem.W.mg_of X G (He.eqO_ok h_44),
    xfB_ok h_45,
    tab_ok X G (cy.tab 0 (t := ("LETTERS", _)) rfl) h_46,
    tab_ok X G (cy.tab 1 (t := ("POWERS", _)) rfl) h_47,
    tab_ok X G (cy.tab 2 (t := ("SIZES", _)) rfl) h_48⟩, trivial⟩
end K84
open PySem PySem.W PySem.Calls PyProof.Rows
open K84 DL in
theorem end_of (true_ : ∀ ns : List Int, ns.length ≤ 63 → f_law [.list (ns.map .int)] = .ok (.val (.bool true))) : PySem.Challenge.rw_fanglue_k84_things_as_papers.Holds := by
  w_on; o_law
  refine HandSHeadRun.head_any (r := PySem.W.OpenLaw.row PySem.Challenge.rw_fanglue_k84_things_as_papers) (q := PySem.W.view (PySem.W.OpenLaw.row PySem.Challenge.rw_fanglue_k84_things_as_papers).prog [86]) (H := hk) (ob := ob) (M := 14000) (loose := loose) (d := HandSHeadRun.topDef (PySem.W.OpenLaw.row PySem.Challenge.rw_fanglue_k84_things_as_papers).prog 86) (kwd := []) ob_eq
    (by kernel_rfl) (fun s => by kernel_rfl) run (by kernel_rfl) (by kernel_rfl) (by kernel_rfl) (by rfl) (by first | assumption | decide +kernel) (by decide +kernel) ⟨rfl, rfl, rfl, rfl, rfl, by decide +kernel⟩ ?hw ?hc
  case hw => w_witness2
  case hc =>
    refine L2.walk_ofE (l := PySem.Challenge.rw_fanglue_k84_things_as_papers) (n := 63) (k := 10) (x := "_law_script") (CX := L2.CX0) rfl (by decide) (by kernel_rfl) ⟨rfl, by decide, by decide⟩ ?F (fun _ _ _ _ z => z)
    intro w mg fa h Y G hmg0
    obtain ⟨K, KX, cc⟩ := Y
    have hmg : mg ("law" : PySem.Str) = some (.ref fa) := by
      have e : (HandSHeadRun.topDef (PySem.W.OpenLaw.row PySem.Challenge.rw_fanglue_k84_things_as_papers).prog 86).name = ("law" : PySem.Str) := by kernel_rfl
      rw [← e]
      exact hmg0
    obtain ⟨c, _⟩ := facts (w := w) KX G cc
    have e := hmg.symm.trans c.g_law
    cases e
    have b := L2.FunD.bindsA (ps := ["_law_script"]) c.F_law fun _ _ _ _ _ _ us hl => match us, hl with | [_], _ => rfl
    exact ⟨K, c.fd_law, fun vs H Q _ => spF K mg 1 f_law vs H Q (fun _ _ _ => False), KX, fun s v => b s [v] rfl, fun H a ns hl _ hS => law_sp (true_ ns hl) hS, fun base _ _ => (ok_law c).calm⟩

theorem PySem.Challenge.cw_fanglue_k84_things_as_papers_holds : PySem.Challenge.rw_fanglue_k84_things_as_papers.Holds := by
  exact end_of K84.law_true
