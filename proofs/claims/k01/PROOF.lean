import PyProof.Rows.All
import Wide.All
import OpenK.AllK
import Wide.FinOn
import HandS.ForMost
import HandS.Exc
import HandS.TryOnly
import HandS.WordsExc
import HandS.Walk
import HandS.IsInst
import HandS.TupAny
import HandS.Deep
import HandS.TupLe
import HandS.Rev
import HandS.RevTup
import PySem.Challenge.RW_ringsbelow_k01_names_known
import HandS.HeadHook2
set_option Elab.async false
set_option linter.all false
set_option maxRecDepth 100000
set_option maxHeartbeats 4000000
/-! DL0: data trees with footprints, environments of data, outcomes, the judgements over a family of contexts. -/
namespace DL
open PySem PySem.Spec PyProof.Rows L2
abbrev D := PyData
abbrev DEnv := List (Option D)
abbrev FT := Nat → List Addr
def keyD : Key → D
  | .inl i => .int i
  | .inr s => .str s
def tkeyD (k : List Key) : D := .tuple (k.map keyD)
/-- objects that may change -/
def mutO : HO → Bool
  | .lst _ | .dK _ | .dT _ => true
  | _ => false
mutual
inductive Rep (K : PySem.W.Frag) (H : Hp) : V → D → List Addr → Prop
  | non : Rep K H .non .none []
  | bl (b : Bool) : Rep K H (.bl b) (.bool b) []
  | int (i : Int) : Rep K H (.int i) (.int i) []
  | str (x : Str) : Rep K H (.str x) (.str x) []
  | tup {a : Addr} {vs : List V} {ds : List D} {F : List Addr} : SqT K H a vs → Reps K H vs ds F → Rep K H (.ref a) (.tuple ds) F
  | lst {a : Addr} {vs : List V} {ds : List D} {F : List Addr} : H a = some (.lst vs) → Reps K H vs ds F → Rep K H (.ref a) (.list ds) (a :: F)
  | dK {a : Addr} {ks : List Key} {vs : List V} {ds : List D} {F : List Addr} : H a = some (.dK (ks.zip vs)) → ks.length = vs.length → Reps K H vs ds F → Rep K H (.ref a) (.dict ((ks.map keyD).zip ds)) (a :: F)
  | dT {a : Addr} {ks : List (List Key)} {vs : List V} {ds : List D} {F : List Addr} : H a = some (.dT (ks.zip vs)) → ks.length = vs.length → Reps K H vs ds F → Rep K H (.ref a) (.dict ((ks.map tkeyD).zip ds)) (a :: F)
inductive Reps (K : PySem.W.Frag) (H : Hp) : List V → List D → List Addr → Prop
  | nil : Reps K H [] [] []
  | cons {v : V} {d : D} {F : List Addr} {vs : List V} {ds : List D} {G : List Addr} : Rep K H v d F → Reps K H vs ds G → Reps K H (v :: vs) (d :: ds) (F ++ G)
end
/-- what stays: all but the objects of B that may change -/
def Keep (B : Addr → Prop) (H H' : Hp) : Prop := ∀ a o, H a = some o → (¬ B a ∨ mutO o = false) → H' a = some o
theorem Keep.refl {B : Addr → Prop} {H : Hp} : Keep B H H := fun _ _ h _ => h
theorem Keep.imp {B B' : Addr → Prop} {H H' : Hp} (k : Keep B H H') (h : ∀ a, H a ≠ none → B a → B' a) : Keep B' H H' := fun a o e c => k a o e (c.imp (fun n b => n (h a (by rw [e]; simp) b)) id)
theorem Keep.new {B : Addr → Prop} {H : Hp} {p : Addr} {o : HO} (h : H p = none) : Keep B H (upd H p o) := fun a u e _ => by
  rw [upd_ne (ne_of_none e h)]
  exact e
theorem Keep.upd {B : Addr → Prop} {H : Hp} {p : Addr} {o : HO} (h : B p) (m : ∀ u, H p = some u → mutO u = true) : Keep B H (upd H p o) := fun a u e c => by
  by_cases q : a = p
  · subst q
    rcases c with c | c
    · exact absurd h c
    · rw [m u e] at c; cases c
  · rw [upd_ne q]; exact e
theorem Keep.rdT {B : Addr → Prop} {H H' : Hp} {a : Addr} {vs : List V} (k : Keep B H H') (h : Rd H a (.tup vs)) : Rd H' a (.tup vs) := by
  rcases h with h | ⟨o, h⟩
  · exact .inl (k a _ h (.inr rfl))
  · exact .inr ⟨o, k a _ h (.inr rfl)⟩
theorem Keep.sqT {B : Addr → Prop} {K : PySem.W.Frag} {H H' : Hp} {a : Addr} {vs : List V} (k : Keep B H H') (h : SqT K H a vs) : SqT K H' a vs := by
  rcases h with h | h
  · exact .inl (k.rdT h)
  · exact .inr h
variable {K : PySem.W.Frag} {H H' : Hp}
mutual
theorem Rep.keep {B : Addr → Prop} (k : Keep B H H') : ∀ {v : V} {d : D} {F : List Addr}, Rep K H v d F → (∀ a ∈ F, ¬ B a) → Rep K H' v d F
  | _, _, _, .non, _ => .non
  | _, _, _, .bl b, _ => .bl b
  | _, _, _, .int i, _ => .int i
  | _, _, _, .str x, _ => .str x
  | _, _, _, .tup h r, n => .tup (k.sqT h) (Reps.keep k r n)
  | _, _, _, .lst h r, n => .lst (k _ _ h (.inl (n _ List.mem_cons_self))) (Reps.keep k r fun a m => n a (List.mem_cons_of_mem _ m))
  | _, _, _, .dK h l r, n => .dK (k _ _ h (.inl (n _ List.mem_cons_self))) l (Reps.keep k r fun a m => n a (List.mem_cons_of_mem _ m))
  | _, _, _, .dT h l r, n => .dT (k _ _ h (.inl (n _ List.mem_cons_self))) l (Reps.keep k r fun a m => n a (List.mem_cons_of_mem _ m))
theorem Reps.keep {B : Addr → Prop} (k : Keep B H H') : ∀ {vs : List V} {ds : List D} {F : List Addr}, Reps K H vs ds F → (∀ a ∈ F, ¬ B a) → Reps K H' vs ds F
  | _, _, _, .nil, _ => .nil
  | _, _, _, .cons r t, n => .cons (Rep.keep k r fun a m => n a (List.mem_append_left _ m)) (Reps.keep k t fun a m => n a (List.mem_append_right _ m))
end
mutual
theorem Rep.trk : ∀ {v : V} {d : D} {F : List Addr}, Rep K H v d F → ∀ a ∈ F, ∃ o, H a = some o ∧ mutO o = true
  | _, _, _, .non, a, m => by cases m
  | _, _, _, .bl _, a, m => by cases m
  | _, _, _, .int _, a, m => by cases m
  | _, _, _, .str _, a, m => by cases m
  | _, _, _, .tup _ r, a, m => Reps.trk r a m
  | _, _, _, .lst h r, a, m => by
    rcases List.mem_cons.mp m with e | m
    · subst e; exact ⟨_, h, rfl⟩
    · exact Reps.trk r a m
  | _, _, _, .dK h _ r, a, m => by
    rcases List.mem_cons.mp m with e | m
    · subst e; exact ⟨_, h, rfl⟩
    · exact Reps.trk r a m
  | _, _, _, .dT h _ r, a, m => by
    rcases List.mem_cons.mp m with e | m
    · subst e; exact ⟨_, h, rfl⟩
    · exact Reps.trk r a m
theorem Reps.trk : ∀ {vs : List V} {ds : List D} {F : List Addr}, Reps K H vs ds F → ∀ a ∈ F, ∃ o, H a = some o ∧ mutO o = true
  | _, _, _, .nil, a, m => by cases m
  | _, _, _, .cons r t, a, m => by
    rcases List.mem_append.mp m with m | m
    · exact Rep.trk r a m
    · exact Reps.trk t a m
end
/-! nothing of it may change -/
mutual
@[simp] def imm : D → Bool
  | .none | .bool _ | .int _ | .str _ => true
  | .tuple ds => imms ds
  | .list _ | .dict _ => false
@[simp] def imms : List D → Bool
  | [] => true
  | d :: ds => imm d && imms ds
end
mutual
theorem Rep.imm : ∀ {v : V} {d : D} {F : List Addr}, Rep K H v d F → imm d = true → F = []
  | _, _, _, .non, _ => rfl
  | _, _, _, .bl _, _ => rfl
  | _, _, _, .int _, _ => rfl
  | _, _, _, .str _, _ => rfl
  | _, _, _, .tup _ r, e => Reps.imm r (by rw [DL.imm] at e; exact e)
  | _, _, _, .lst _ _, e => by rw [DL.imm] at e; cases e
  | _, _, _, .dK _ _ _, e => by rw [DL.imm] at e; cases e
  | _, _, _, .dT _ _ _, e => by rw [DL.imm] at e; cases e
theorem Reps.imm : ∀ {vs : List V} {ds : List D} {F : List Addr}, Reps K H vs ds F → imms ds = true → F = []
  | _, _, _, .nil, _ => rfl
  | _, _, _, .cons r t, e => by
    rw [DL.imms, Bool.and_eq_true] at e
    rw [Rep.imm r e.1, Reps.imm t e.2]
    rfl
end
theorem imm_tup {ds : List D} : DL.imm (.tuple ds) = imms ds := by rw [DL.imm]
theorem imm_int {i : Int} : DL.imm (.int i) = true := by rw [DL.imm]
theorem imm_str {i : Str} : DL.imm (.str i) = true := by rw [DL.imm]
theorem imm_bl {i : Bool} : DL.imm (.bool i) = true := by rw [DL.imm]
theorem imm_non : DL.imm .none = true := by rw [DL.imm]
theorem Reps.length : ∀ {vs : List V} {ds : List D} {F : List Addr}, Reps K H vs ds F → vs.length = ds.length
  | _, _, _, .nil => rfl
  | _, _, _, .cons _ t => by rw [List.length_cons, List.length_cons, Reps.length t]
theorem Reps.append : ∀ {vs ws : List V} {ds es : List D} {F G : List Addr}, Reps K H vs ds F → Reps K H ws es G → Reps K H (vs ++ ws) (ds ++ es) (F ++ G)
  | _, _, _, _, _, _, .nil, t => t
  | _, _, _, _, _, _, .cons r s, t => by
    rw [List.append_assoc]
    exact .cons r (Reps.append s t)
theorem Reps.get : ∀ {vs : List V} {ds : List D} {F : List Addr} {i : Nat} {d : D}, Reps K H vs ds F → ds[i]? = some d → ∃ v G, vs[i]? = some v ∧ Rep K H v d G ∧ ∀ a ∈ G, a ∈ F
  | _, _, _, _, _, .nil, e => by simp at e
  | _, _, _, 0, _, .cons r t, e => by
    simp at e; subst e
    exact ⟨_, _, rfl, r, fun a m => List.mem_append_left _ m⟩
  | _, _, _, i + 1, _, .cons r t, e => by
    obtain ⟨v, G, h1, h2, h3⟩ := Reps.get (i := i) t (by simpa using e)
    exact ⟨v, G, by simpa using h1, h2, fun a m => List.mem_append_right _ (h3 a m)⟩
theorem Reps.getV : ∀ {vs : List V} {ds : List D} {F : List Addr} {i : Nat} {v : V}, Reps K H vs ds F → vs[i]? = some v → ∃ d G, ds[i]? = some d ∧ Rep K H v d G ∧ ∀ a ∈ G, a ∈ F
  | _, _, _, _, _, .nil, e => by simp at e
  | _, _, _, 0, _, .cons r t, e => by
    simp at e; subst e
    exact ⟨_, _, rfl, r, fun a m => List.mem_append_left _ m⟩
  | _, _, _, i + 1, _, .cons r t, e => by
    obtain ⟨d, G, h1, h2, h3⟩ := Reps.getV (i := i) t (by simpa using e)
    exact ⟨d, G, by simpa using h1, h2, fun a m => List.mem_append_right _ (h3 a m)⟩
theorem imms_get {ds : List D} (h : imms ds = true) {i : Nat} {d : D} (e : ds[i]? = some d) : imm d = true := by
  induction ds generalizing i with
  | nil => simp at e
  | cons x r ih =>
    rw [imms, Bool.and_eq_true] at h
    cases i with
    | zero => simp at e; rw [← e]; exact h.1
    | succ i => exact ih h.2 (by simpa using e)
/-- the footprint of the i-th place apart -/
theorem Reps.split : ∀ {vs : List V} {ds : List D} {F : List Addr} {i : Nat} {d : D}, Reps K H vs ds F → ds[i]? = some d → ∃ v F1 G F2, F = F1 ++ (G ++ F2) ∧ vs[i]? = some v ∧ Rep K H v d G ∧ Reps K H (vs.take i) (ds.take i) F1 ∧ Reps K H (vs.drop (i + 1)) (ds.drop (i + 1)) F2
  | _, _, _, _, _, .nil, e => by simp at e
  | _, _, _, 0, _, .cons r t, e => by
    simp at e; subst e
    exact ⟨_, [], _, _, rfl, rfl, r, .nil, t⟩
  | _, _, _, i + 1, _, .cons r t, e => by
    obtain ⟨v, F1, G, F2, h0, h1, h2, h3, h4⟩ := Reps.split (i := i) t (by simpa using e)
    subst h0
    exact ⟨v, _ ++ F1, G, F2, by simp, by simpa using h1, h2, .cons r h3, h4⟩
/-! ### environments -/
structure EnvR (K : PySem.W.Frag) (H : Hp) (σ : L2.St) (δ : DEnv) (Fs : FT) : Prop where
  len : σ.length = δ.length
  «at» : ∀ i d, δ[i]? = some (some d) → ∃ v, σ[i]? = some (some v) ∧ Rep K H v d (Fs i)
  no : ∀ i, (∀ d, δ[i]? ≠ some (some d)) → Fs i = []
/-- all footprints stand apart -/
structure Sep (Fs : FT) (Fr : List Addr) : Prop where
  ndr : Fr.Nodup
  nds : ∀ i, (Fs i).Nodup
  dis : ∀ i j, i ≠ j → ∀ a ∈ Fs i, a ∉ Fs j
  dir : ∀ i, ∀ a ∈ Fr, a ∉ Fs i
def InM (M : List Nat) (Fs : FT) (a : Addr) : Prop := ∃ i ∈ M, a ∈ Fs i
def InAll (Fs : FT) (a : Addr) : Prop := ∃ i, a ∈ Fs i
theorem InM.mono {M M' : List Nat} {Fs : FT} {a : Addr} (h : InM M Fs a) (s : ∀ i ∈ M, i ∈ M') : InM M' Fs a := let ⟨i, m, q⟩ := h; ⟨i, s i m, q⟩
theorem InM.all {M : List Nat} {Fs : FT} {a : Addr} (h : InM M Fs a) : InAll Fs a := let ⟨i, _, q⟩ := h; ⟨i, q⟩
theorem EnvR.trk {σ : L2.St} {δ : DEnv} {Fs : FT} (E : EnvR K H σ δ Fs) {i : Nat} {a : Addr} (m : a ∈ Fs i) : ∃ o, H a = some o ∧ mutO o = true := by
  by_cases h : ∃ d, δ[i]? = some (some d)
  · obtain ⟨d, e⟩ := h
    obtain ⟨v, _, r⟩ := E.at i d e
    exact r.trk a m
  · rw [E.no i fun d e => h ⟨d, e⟩] at m; cases m
/-- the environment in a heap that keeps its objects -/
theorem EnvR.keep {σ : L2.St} {δ : DEnv} {Fs : FT} {B : Addr → Prop} (E : EnvR K H σ δ Fs) (k : Keep B H H') (n : ∀ i, ∀ a ∈ Fs i, ¬ B a) : EnvR K H' σ δ Fs :=
  ⟨E.len, fun i d e => let ⟨v, h, r⟩ := E.at i d e; ⟨v, h, r.keep k (n i)⟩, E.no⟩
theorem Sep.left {Fs : FT} {F G : List Addr} (s : Sep Fs (F ++ G)) : Sep Fs F :=
  ⟨(List.nodup_append.mp s.ndr).1, s.nds, s.dis, fun i a m => s.dir i a (List.mem_append_left _ m)⟩
theorem Sep.right {Fs : FT} {F G : List Addr} (s : Sep Fs (F ++ G)) : Sep Fs G :=
  ⟨(List.nodup_append.mp s.ndr).2.1, s.nds, s.dis, fun i a m => s.dir i a (List.mem_append_right _ m)⟩
theorem Sep.drop {Fs : FT} {F : List Addr} (s : Sep Fs F) : Sep Fs [] := ⟨List.nodup_nil, s.nds, s.dis, fun _ _ m => (nomatch m)⟩
/-- from (H, δ, Fs) to (H', δ', Fs') with the new owned Fr: only the slots of M were touched -/
structure Post (K : PySem.W.Frag) (M : List Nat) (H : Hp) (δ : DEnv) (Fs : FT) (σ' : L2.St) (H' : Hp) (δ' : DEnv) (Fs' : FT) (Fr : List Addr) : Prop where
  env : EnvR K H' σ' δ' Fs'
  sep : Sep Fs' Fr
  trk : ∀ a ∈ Fr, ∃ o, H' a = some o ∧ mutO o = true
  sub : ∀ i ∈ M, ∀ a ∈ Fs' i, InM M Fs a ∨ H a = none
  subr : ∀ a ∈ Fr, InM M Fs a ∨ H a = none
  keep : Keep (InM M Fs) H H'
  same : ∀ i, i ∉ M → Fs' i = Fs i ∧ δ'[i]? = δ[i]?
theorem Post.refl {σ : L2.St} {δ : DEnv} {Fs : FT} {M : List Nat} (E : EnvR K H σ δ Fs) (s : Sep Fs []) : Post K M H δ Fs σ H δ Fs [] :=
  ⟨E, s, fun _ m => (nomatch m), fun i m a h => .inl ⟨i, m, h⟩, fun _ m => (nomatch m), .refl, fun _ _ => ⟨rfl, rfl⟩⟩
theorem Post.all {M : List Nat} {δ δ' : DEnv} {Fs Fs' : FT} {σ' : L2.St} {Fr : List Addr} (p : Post K M H δ Fs σ' H' δ' Fs' Fr) {i : Nat} {a : Addr} (m : a ∈ Fs' i) : InAll Fs a ∨ H a = none := by
  by_cases h : i ∈ M
  · exact (p.sub i h a m).imp InM.all id
  · rw [(p.same i h).1] at m; exact .inl ⟨i, m⟩
theorem Post.mono {M M' : List Nat} {δ δ' : DEnv} {Fs Fs' : FT} {σ' : L2.St} {Fr : List Addr} (p : Post K M H δ Fs σ' H' δ' Fs' Fr) (h : ∀ i ∈ M, i ∈ M') : Post K M' H δ Fs σ' H' δ' Fs' Fr :=
  ⟨p.env, p.sep, p.trk, fun i m a q => by
    by_cases hi : i ∈ M
    · exact (p.sub i hi a q).imp (fun z => z.mono h) id
    · rw [(p.same i hi).1] at q; exact .inl ⟨i, m, q⟩, fun a m => (p.subr a m).imp (fun z => z.mono h) id, p.keep.imp fun a _ z => z.mono h, fun i n => p.same i fun z => n (h i z)⟩
theorem Post.comp {M1 M2 : List Nat} {H1 H2 : Hp} {δ δ1 δ2 : DEnv} {Fs Fs1 Fs2 : FT} {σ1 σ2 : L2.St} {F1 F2 : List Addr} (p : Post K M1 H δ Fs σ1 H1 δ1 Fs1 F1) (q : Post K M2 H1 δ1 Fs1 σ2 H2 δ2 Fs2 F2) : Post K (M1 ++ M2) H δ Fs σ2 H2 δ2 Fs2 (F1 ++ F2) := by
  have back : ∀ a, InM M2 Fs1 a ∨ H1 a = none → InM (M1 ++ M2) Fs a ∨ H a = none := fun a h => by
    rcases h with ⟨j, hj, m⟩ | h
    · by_cases h1 : j ∈ M1
      · exact (p.sub j h1 a m).imp (fun z => z.mono fun i m => List.mem_append_left _ m) id
      · rw [(p.same j h1).1] at m
        exact .inl ⟨j, List.mem_append_right _ hj, m⟩
    · cases e : H a with
      | none => exact .inr rfl
      | some o =>
        refine .inl ?_
        by_cases hb : InM M1 Fs a
        · exact hb.mono fun i m => List.mem_append_left _ m
        · rw [p.keep a o e (.inl hb)] at h; cases h
  have away : ∀ a ∈ F1, ¬ (InM M2 Fs1 a ∨ H1 a = none) := fun a m h => by
    rcases h with ⟨j, _, hm⟩ | h
    · exact p.sep.dir j a m hm
    · obtain ⟨o, e, _⟩ := p.trk a m
      rw [e] at h; cases h
  have kp : ∀ a ∈ F1, ∀ o, H1 a = some o → H2 a = some o := fun a m o e => q.keep a o e (.inl fun z => away a m (.inl z))
  refine ⟨q.env, ⟨?_, q.sep.nds, q.sep.dis, fun i a m => ?_⟩, fun a m => ?_, fun i m a h => ?_, fun a m => ?_, fun a o e c => ?_, fun i n => ?_⟩
  · refine List.nodup_append.mpr ⟨p.sep.ndr, q.sep.ndr, fun a h1 b h2 => ?_⟩
    rintro rfl
    exact away a h1 (q.subr a h2)
  · rcases List.mem_append.mp m with m | m
    · intro z
      by_cases h2 : i ∈ M2
      · exact away a m (q.sub i h2 a z)
      · rw [(q.same i h2).1] at z
        exact p.sep.dir i a m z
    · exact q.sep.dir i a m
  · rcases List.mem_append.mp m with m | m
    · obtain ⟨o, e, h⟩ := p.trk a m
      exact ⟨o, kp a m o e, h⟩
    · exact q.trk a m
  · by_cases h2 : i ∈ M2
    · exact back a (q.sub i h2 a h)
    · rw [(q.same i h2).1] at h
      have h1 : i ∈ M1 := (List.mem_append.mp m).resolve_right h2
      exact (p.sub i h1 a h).imp (fun z => z.mono fun i m => List.mem_append_left _ m) id
  · rcases List.mem_append.mp m with m | m
    · exact (p.subr a m).imp (fun z => z.mono fun i m => List.mem_append_left _ m) id
    · exact back a (q.subr a m)
  · refine q.keep a o (p.keep a o e (c.imp (fun n z => n (z.mono fun i m => List.mem_append_left _ m)) id)) (c.imp (fun n z => ?_) id)
    rcases back a (.inl z) with z | z
    · exact n z
    · rw [e] at z; cases z
  · have n1 : i ∉ M1 := fun z => n (List.mem_append_left _ z)
    have n2 : i ∉ M2 := fun z => n (List.mem_append_right _ z)
    exact ⟨(q.same i n2).1.trans (p.same i n1).1, (q.same i n2).2.trans (p.same i n1).2⟩
end DL
/-! DL1: outcomes, kinds of operands, the judgements of expressions. -/
namespace DL
open PySem PySem.Spec PyProof.Rows L2
/-- an own exception: its class's name, its fields -/
structure Exc where
  cls : Str
  flds : List (Str × D)
inductive Out (α : Type) where
  | ok (a : α) (δ : DEnv)
  | ex (x : Exc)
abbrev EM (α : Type) := DEnv → Option (Out α)
@[simp] def EM.bind {α β : Type} (f : EM α) (g : α → EM β) : EM β := fun δ => match f δ with
  | some (.ok a δ1) => g a δ1
  | some (.ex x) => some (.ex x)
  | none => none
inductive Kd where
  | own | bor (B : List Nat) | sl (i : Nat)
structure ExR (mg : Str → Option Value) (K : PySem.W.Frag) (H : Hp) (x : Exc) (cv : Value) (da : Option Addr) : Prop where
  cls : mg x.cls = some cv
  flds : ∃ dx fs, da = some dx ∧ H dx = some (.xd fs) ∧ fs.map (·.1) = x.flds.map (·.1) ∧ Reps K H (fs.map (·.2)) (x.flds.map (·.2)) []
/-- what all contexts of a family share -/
structure Sig where
  P : Program
  w : World
  K : PySem.W.Frag
  mg : Str → Option Value
  base : Heap
  N : List Str
  sc : Scope
  fn : Str → Bool
  k : Nat
  E : XK
structure Fits (S : Sig) (X : Cx) : Prop where
  prog : X.prog = S.P
  w : X.w = S.w
  K : X.K = S.K
  mg : X.mg = S.mg
  base : X.base = S.base
  N : X.N = S.N
  sc : X.env.scope = S.sc
  fn : ∀ x, S.fn x = true → X.fn x = true
  room : Room S.k X.A
  calm : X.calm = true
  tk : Takes X (fun cls d _ H => S.E cls d H)
  own : PassesOwn (model X.prog X.w) X.A X.env X.xe
def tB (S : Sig) (e : Expr) : TE := fun σ H Q => ∃ t, (∀ X, Fits S X → PE X e t) ∧ t σ H Q
def tBT (S : Sig) (e : Expr) : TT := fun σ H Q => ∃ t, (∀ X, Fits S X → PT X e t) ∧ t σ H Q
def tBA (S : Sig) : List Expr → TA
  | [] => tNil
  | e :: es => tCons (tB S e) (tBA S es)
section
variable {S : Sig} {X : Cx}
theorem pe_tB {e : Expr} (h : Fits S X) : PE X e (tB S e) := ⟨fun pins s σ H Q I ⟨t, ht, q⟩ => (ht X h).run pins s σ H Q I q⟩
theorem pt_tB {e : Expr} (h : Fits S X) : PT X e (tBT S e) := ⟨fun pins s σ H Q I ⟨t, ht, q⟩ => (ht X h).run pins s σ H Q I q⟩
/-- plain arguments: no star in them -/
def Plain : List Expr → Prop
  | [] => True
  | e :: es => (∀ env, starEach (e :: es) env = (false, eval e env) :: starEach es env) ∧ Plain es
theorem pa_tB (h : Fits S X) : ∀ {es : List Expr}, Plain es → PA X es (tBA S es)
  | [], _ => pa_nil
  | _ :: _, p => pa_cons (pe_tB h) (pa_tB h p.2) (p.1 _)
end
/-- an exception's way out is wished for -/
def XOk (S : Sig) (H : Hp) (Fs : FT) (x : Exc) : Prop := ∀ cv da H', ExR S.mg S.K H' x cv da → Keep (InAll Fs) H H' → S.E cv da H'
theorem Keep.trans {B B1 B2 : Addr → Prop} {H H1 H2 : Hp} (k1 : Keep B1 H H1) (k2 : Keep B2 H1 H2) (h1 : ∀ a, H a ≠ none → B1 a → B a) (h2 : ∀ a, H a ≠ none → B2 a → B a) : Keep B H H2 := fun a o e c => by
  have e1 := k1 a o e (c.imp (fun n b => n (h1 a (by rw [e]; simp) b)) id)
  exact k2 a o e1 (c.imp (fun n b => n (h2 a (by rw [e]; simp) b)) id)
theorem XOk.post {S : Sig} {M : List Nat} {H H' : Hp} {δ δ' : DEnv} {Fs Fs' : FT} {σ' : L2.St} {Fr : List Addr} {x : Exc} (h : XOk S H Fs x) (p : Post S.K M H δ Fs σ' H' δ' Fs' Fr) : XOk S H' Fs' x := fun cv da H2 r k =>
  h cv da H2 r (p.keep.trans k (fun a _ b => b.all) fun a n ⟨i, m⟩ => (p.all m).resolve_right n)
def Opn (K : PySem.W.Frag) (H : Hp) (σ : L2.St) (δ : DEnv) (Fs : FT) (Fr : List Addr) (κ : Kd) (v : V) (d : D) : Prop := match κ with
  | .own => Rep K H v d Fr
  | .bor B => Fr = [] ∧ ∃ F, Rep K H v d F ∧ ∀ a ∈ F, InM B Fs a
  | .sl i => Fr = [] ∧ σ[i]? = some (some v) ∧ δ[i]? = some (some d)
theorem Opn.rep {K : PySem.W.Frag} {H : Hp} {σ : L2.St} {δ : DEnv} {Fs : FT} {Fr : List Addr} {κ : Kd} {v : V} {d : D} (E : EnvR K H σ δ Fs) (h : Opn K H σ δ Fs Fr κ v d) : ∃ F, Rep K H v d F := by
  cases κ with
  | own => exact ⟨_, h⟩
  | bor B => exact ⟨_, h.2.choose_spec.1⟩
  | sl i =>
    obtain ⟨_, h1, h2⟩ := h
    obtain ⟨v', e, r⟩ := E.at i d h2
    rw [h1] at e
    cases e
    exact ⟨_, r⟩
/-- THE JUDGEMENT of an expression: f tells its value and the environment behind it -/
def DE (S : Sig) (e : Expr) (κ : Kd) (M : List Nat) (f : EM D) : Prop :=
  ∀ (σ : L2.St) (H : Hp) (δ : DEnv) (Fs : FT) (Q : VK) (r : Out D), EnvR S.K H σ δ Fs → Sep Fs [] → f δ = some r →
    (match r with
      | .ok d δ' => ∀ v H' Fs' Fr, Post S.K M H δ Fs σ H' δ' Fs' Fr → Opn S.K H' σ δ' Fs' Fr κ v d → Q v H'
      | .ex x => XOk S H Fs x) → tB S e σ H Q
/-- of a test -/
def DT (S : Sig) (e : Expr) (M : List Nat) (f : EM Bool) : Prop :=
  ∀ (σ : L2.St) (H : Hp) (δ : DEnv) (Fs : FT) (Q : Bool → Hp → Prop) (r : Out Bool), EnvR S.K H σ δ Fs → Sep Fs [] → f δ = some r →
    (match r with
      | .ok b δ' => ∀ H' Fs', Post S.K M H δ Fs σ H' δ' Fs' [] → Q b H'
      | .ex x => XOk S H Fs x) → tBT S e σ H Q
/-- of arguments -/
inductive OpnL (K : PySem.W.Frag) (H : Hp) (σ : L2.St) (δ : DEnv) (Fs : FT) : List Kd → List V → List D → List (List Addr) → Prop
  | nil : OpnL K H σ δ Fs [] [] [] []
  | cons {κ : Kd} {v : V} {d : D} {F : List Addr} {κs : List Kd} {vs : List V} {ds : List D} {Gs : List (List Addr)} : Opn K H σ δ Fs F κ v d → OpnL K H σ δ Fs κs vs ds Gs → OpnL K H σ δ Fs (κ :: κs) (v :: vs) (d :: ds) (F :: Gs)
def DA (S : Sig) (es : List Expr) (κs : List Kd) (M : List Nat) (f : EM (List D)) : Prop :=
  ∀ (σ : L2.St) (H : Hp) (δ : DEnv) (Fs : FT) (Q : List V → Hp → Prop) (r : Out (List D)), EnvR S.K H σ δ Fs → Sep Fs [] → f δ = some r →
    (match r with
      | .ok ds δ' => ∀ vs H' Fs' Frs, Post S.K M H δ Fs σ H' δ' Fs' Frs.flatten → OpnL S.K H' σ δ' Fs' κs vs ds Frs → Q vs H'
      | .ex x => XOk S H Fs x) → tBA S es σ H Q
theorem OpnL.reps {K : PySem.W.Frag} {H : Hp} {σ : L2.St} {δ : DEnv} {Fs : FT} (E : EnvR K H σ δ Fs) : ∀ {κs : List Kd} {vs : List V} {ds : List D} {Frs : List (List Addr)}, OpnL K H σ δ Fs κs vs ds Frs → ∃ F, Reps K H vs ds F
  | _, _, _, _, .nil => ⟨_, .nil⟩
  | _, _, _, _, .cons h t => by
    obtain ⟨F, r⟩ := h.rep E
    obtain ⟨G, s⟩ := OpnL.reps E t
    exact ⟨_, .cons r s⟩
theorem OpnL.owns {K : PySem.W.Frag} {H : Hp} {σ : L2.St} {δ : DEnv} {Fs : FT} : ∀ {κs : List Kd} {vs : List V} {ds : List D} {Frs : List (List Addr)}, (∀ κ ∈ κs, κ = .own) → OpnL K H σ δ Fs κs vs ds Frs → Reps K H vs ds Frs.flatten
  | _, _, _, _, _, .nil => .nil
  | κ :: _, _, _, _, h, .cons (F := F) p t => by
    have e := h κ List.mem_cons_self
    subst e
    exact .cons (F := F) p (OpnL.owns (fun κ m => h κ (List.mem_cons_of_mem _ m)) t)
theorem Opn.owned {K : PySem.W.Frag} {H : Hp} {σ : L2.St} {δ : DEnv} {Fs : FT} {F : List Addr} {κ : Kd} {v : V} {d : D} (h : Opn K H σ δ Fs F κ v d) : F = [] ∨ Rep K H v d F := by
  cases κ with
  | own => exact .inr h
  | bor B => exact .inl h.1
  | sl i => exact .inl h.1
/-- read again what a slot holds, once the operands behind it have been reckoned -/
@[simp] def reread (κ : Kd) (d : D) (δ : DEnv) : Option D := match κ with
  | .sl i => (δ[i]?).join
  | _ => some d
def okk (κ : Kd) (M : List Nat) : Bool := match κ with
  | .bor B => B.all fun b => !M.contains b
  | _ => true
theorem Opn.carry {K : PySem.W.Frag} {M : List Nat} {H1 H2 : Hp} {σ : L2.St} {δ1 δ2 : DEnv} {Fs1 Fs2 : FT} {F G : List Addr} {κ : Kd} {v : V} {d d' : D}
    (h : Opn K H1 σ δ1 Fs1 F κ v d) (s : Sep Fs1 F) (p : Post K M H1 δ1 Fs1 σ H2 δ2 Fs2 G) (c : okk κ M = true) (e : reread κ d δ2 = some d') : Opn K H2 σ δ2 Fs2 F κ v d' := by
  cases κ with
  | own =>
    have e : d = d' := Option.some.inj e
    subst e
    exact Rep.keep p.keep h fun a m ⟨i, _, z⟩ => s.dir i a m z
  | bor B =>
    have e : d = d' := Option.some.inj e
    subst e
    obtain ⟨h0, F', r, hb⟩ := h
    have c : ∀ b ∈ B, b ∉ M := fun b m => by
      have := List.all_eq_true.mp c b m
      simpa using this
    refine ⟨h0, F', r.keep p.keep fun a m ⟨i, hi, z⟩ => ?_, fun a m => ?_⟩
    · obtain ⟨b, mb, zb⟩ := hb a m
      by_cases q : i = b
      · subst q; exact c i mb hi
      · exact s.dis i b q a z zb
    · obtain ⟨b, mb, zb⟩ := hb a m
      exact ⟨b, mb, by rw [(p.same b (c b mb)).1]; exact zb⟩
  | sl i =>
    obtain ⟨h0, h1, h2⟩ := h
    refine ⟨h0, h1, ?_⟩
    have e : (δ2[i]?).join = some d' := e
    cases q : δ2[i]? with
    | none => rw [q] at e; cases e
    | some o =>
      rw [q] at e
      have e : o = some d' := e
      rw [e]
@[simp] def cArgs : List (Kd × EM D) → EM (List D)
  | [] => fun δ => some (.ok [] δ)
  | (κ, f) :: r => EM.bind f fun d => EM.bind (cArgs r) fun ds δ2 => match reread κ d δ2 with
    | some d' => some (.ok (d' :: ds) δ2)
    | none => none
theorem da_nil {S : Sig} : DA S [] [] [] (cArgs []) := fun σ H δ Fs Q r E s h k => by
  cases h
  exact k [] H Fs [] (Post.refl E s) .nil
theorem bind_some {α β : Type} {f : EM α} {g : α → EM β} {δ : DEnv} {r : Out β} (h : EM.bind f g δ = some r) : (∃ a δ1, f δ = some (.ok a δ1) ∧ g a δ1 = some r) ∨ ∃ x, f δ = some (.ex x) ∧ r = .ex x := by
  unfold EM.bind at h
  cases e : f δ with
  | none => rw [e] at h; cases h
  | some o =>
    rw [e] at h
    cases o with
    | ok a δ1 => exact .inl ⟨a, δ1, rfl, h⟩
    | ex x => exact .inr ⟨x, rfl, (Option.some.inj h).symm⟩
/-- the sep of two operands' temporaries -/
theorem Post.sep0 {K : PySem.W.Frag} {M : List Nat} {H H' : Hp} {δ δ' : DEnv} {Fs Fs' : FT} {σ' : L2.St} {Fr : List Addr} (p : Post K M H δ Fs σ' H' δ' Fs' Fr) : Sep Fs' [] := p.sep.drop
theorem da_cons {S : Sig} {e : Expr} {es : List Expr} {κ : Kd} {κs : List Kd} {M Ms : List Nat} {f : EM D} {fs : List (Kd × EM D)} (h : DE S e κ M f) (hr : DA S es κs Ms (cArgs fs)) (c : okk κ Ms = true := by rfl) :
    DA S (e :: es) (κ :: κs) (M ++ Ms) (cArgs ((κ, f) :: fs)) := fun σ H δ Fs Q r E s hf k => by
  show tB S e σ H fun x H1 => tBA S es σ H1 fun xs H2 => Q (x :: xs) H2
  rcases bind_some hf with ⟨d, δ1, h1, h2⟩ | ⟨x, h1, rfl⟩
  · refine h σ H δ Fs _ _ E s h1 fun v H1 Fs1 F1 p1 o1 => ?_
    rcases bind_some h2 with ⟨ds, δ2, h3, h4⟩ | ⟨x, h3, rfl⟩
    · cases e : reread κ d δ2 with
      | none => rw [e] at h4; cases h4
      | some d' =>
        rw [e] at h4
        cases h4
        refine hr σ H1 δ1 Fs1 _ _ p1.env p1.sep0 h3 fun vs H2 Fs2 Frs p2 o2 => ?_
        exact k (v :: vs) H2 Fs2 (F1 :: Frs) (p1.comp p2) (.cons (o1.carry p1.sep p2 c e) o2)
    · exact hr σ H1 δ1 Fs1 _ _ p1.env p1.sep0 h3 (XOk.post k p1)
  · exact h σ H δ Fs _ _ E s h1 k
end DL
/-! DL2: rules of expressions. -/
namespace DL
open PySem PySem.Spec PyProof.Rows L2
variable {S : Sig}
/-! ### what a step on values makes -/
structure NewV (K : PySem.W.Frag) (H : Hp) (z : V) (d : D) (H' : Hp) (F : List Addr) : Prop where
  keep : Keep (fun _ => False) H H'
  rep : Rep K H' z d F
  fresh : ∀ a ∈ F, H a = none
  nd : F.Nodup
theorem NewV.same {K : PySem.W.Frag} {H : Hp} {z : V} {d : D} (r : Rep K H z d []) : NewV K H z d H [] := ⟨.refl, r, fun _ m => (nomatch m), List.nodup_nil⟩
def VOk (K : PySem.W.Frag) (r : List V → Hp → VK → Prop) (ds : List D) (dz : D) : Prop :=
  ∀ H vs F Q, Reps K H vs ds F → (∀ z H' Fz, NewV K H z dz H' Fz → Q z H') → r vs H Q
theorem Post.newv {K : PySem.W.Frag} {M : List Nat} {H H1 H2 : Hp} {δ δ1 : DEnv} {Fs Fs1 : FT} {σ : L2.St} {F Fz : List Addr} {z : V} {d : D} (p : Post K M H δ Fs σ H1 δ1 Fs1 F) (n : NewV K H1 z d H2 Fz) : Post K M H δ Fs σ H2 δ1 Fs1 Fz := by
  have p0 : Post K M H δ Fs σ H1 δ1 Fs1 [] := ⟨p.env, p.sep0, fun _ m => (nomatch m), p.sub, fun _ m => (nomatch m), p.keep, p.same⟩
  have q : Post K [] H1 δ1 Fs1 σ H2 δ1 Fs1 Fz := by
    refine ⟨p.env.keep n.keep fun _ _ _ h => h, ⟨n.nd, p.sep.nds, p.sep.dis, fun i a m z => ?_⟩, n.rep.trk, fun _ m => (nomatch m), fun a m => .inr (n.fresh a m), n.keep.imp fun _ _ h => h.elim, fun _ _ => ⟨rfl, rfl⟩⟩
    obtain ⟨o, e, _⟩ := p.env.trk z
    rw [n.fresh a m] at e
    cases e
  exact (p0.comp q).mono fun i m => by simpa using m
@[simp] def cV (f : EM (List D)) (g : List D → Option D) : EM D := EM.bind f fun ds δ => match g ds with
  | some d => some (.ok d δ)
  | none => none
theorem de_v {e : Expr} {es : List Expr} {κs : List Kd} {M : List Nat} {f : EM (List D)} {g : List D → Option D} (hA : DA S es κs M f)
    (h0 : ∃ r : List V → Hp → VK → Prop, ∀ X, Fits S X → PE X e (fun σ H Q => tBA S es σ H fun vs H1 => r vs H1 Q))
    (hg : ∀ ds dz, g ds = some dz → ∃ r : List V → Hp → VK → Prop, (∀ X, Fits S X → PE X e (fun σ H Q => tBA S es σ H fun vs H1 => r vs H1 Q)) ∧ VOk S.K r ds dz) : DE S e .own M (cV f g) := fun σ H δ Fs Q r E s hf k => by
  rcases bind_some hf with ⟨ds, δ1, h1, h2⟩ | ⟨x, h1, rfl⟩
  · cases e2 : g ds with
    | none => rw [e2] at h2; cases h2
    | some dz =>
      rw [e2] at h2
      cases h2
      obtain ⟨r, hr, ok⟩ := hg ds dz e2
      refine ⟨_, hr, hA σ H δ Fs _ _ E s h1 fun vs H1 Fs1 Frs p o => ?_⟩
      obtain ⟨F, rs⟩ := o.reps p.env
      exact ok H1 vs F Q rs fun z H2 Fz n => k z H2 Fs1 Fz (p.newv n) n.rep
  · obtain ⟨r, hr⟩ := h0
    exact ⟨_, hr, hA σ H δ Fs _ _ E s h1 k⟩
def l1 (r : V → Hp → VK → Prop) : List V → Hp → VK → Prop := fun vs H Q => match vs with
  | [x] => r x H Q
  | _ => False
def l2 (r : R2) : List V → Hp → VK → Prop := fun vs H Q => match vs with
  | [x, y] => r x y H Q
  | _ => False
/-! ### names and constants -/
@[simp] def cC (d : D) : EM D := fun δ => some (.ok d δ)
@[simp] def cSl (i : Nat) : EM D := fun δ => match δ[i]? with
  | some (some d) => some (.ok d δ)
  | _ => none
@[simp] def cMv (i : Nat) : EM D := fun δ => match δ[i]? with
  | some (some d) => some (.ok d (δ.set i none))
  | _ => none
@[simp] def cImm (f : EM D) : EM D := EM.bind f fun d δ => if imm d = true then some (.ok d δ) else none
theorem de_const {e : Expr} {v : V} {d : D} (h : ∀ X, Fits S X → PE X e (tC v)) (r : ∀ H, Rep S.K H v d []) : DE S e .own [] (cC d) := fun σ H δ Fs Q r0 E s hf k => by
  cases hf
  exact ⟨_, h, k v H Fs [] (Post.refl E s) (r H)⟩
theorem de_int {i : Int} {j pos} : DE S (.Constant (.int i) j pos) .own [] (cC (.int i)) := de_const (fun _ _ => pe_int) fun _ => .int i
theorem de_bl {b : Bool} {j pos} : DE S (.Constant (.bool b) j pos) .own [] (cC (.bool b)) := de_const (fun _ _ => pe_bl) fun _ => .bl b
theorem de_non {j pos} : DE S (.Constant .none j pos) .own [] (cC .none) := de_const (fun _ _ => pe_non) fun _ => .non
theorem de_str {x : Str} {j pos} : DE S (.Constant (.str x) j pos) .own [] (cC (.str x)) := de_const (fun _ _ => pe_str) fun _ => .str x
/-- a name of the def: its place, how it is seen -/
structure NmS (S : Sig) (i : Nat) (x : Str) : Prop where
  hN : S.N[i]? = some x
  vis : Vis S.sc x
  hd : (x == ("__debug__" : Str)) = false
  hcd : (x == ("__classdict__" : Str)) = false
theorem NmS.pe {X : Cx} {i : Nat} {x : Str} {pos : Pos} (n : NmS S i x) (h : Fits S X) : PE X (.Name x pos) (tVar i) :=
  pe_var (by rw [h.N]; exact n.hN) (by rw [h.sc]; exact n.vis) n.hd n.hcd
theorem de_sl {i : Nat} {x : Str} {pos : Pos} (n : NmS S i x) : DE S (.Name x pos) (.sl i) [] (cSl i) := fun σ H δ Fs Q r E s hf k => by
  unfold cSl at hf
  cases e : δ[i]? with
  | none => rw [e] at hf; cases hf
  | some o =>
    cases o with
    | none => rw [e] at hf; cases hf
    | some d =>
      rw [e] at hf
      cases hf
      obtain ⟨v, hv, rp⟩ := E.at i d e
      exact ⟨_, fun X hX => n.pe hX, v, hv, k v H Fs [] (Post.refl E s) ⟨rfl, hv, e⟩⟩
theorem de_imm {e : Expr} {κ : Kd} {M : List Nat} {f : EM D} (h : DE S e κ M f) : DE S e .own M (cImm f) := fun σ H δ Fs Q r E s hf k => by
  rcases bind_some hf with ⟨d, δ1, h1, h2⟩ | ⟨x, h1, rfl⟩
  · by_cases hi : imm d = true
    · rw [if_pos hi] at h2
      cases h2
      refine h σ H δ Fs Q _ E s h1 fun v H1 Fs1 F p o => ?_
      obtain ⟨G, rp⟩ := o.rep p.env
      have e := rp.imm hi
      subst e
      have p0 : Post S.K M H δ Fs σ H1 δ1 Fs1 [] := ⟨p.env, p.sep0, fun _ m => (nomatch m), p.sub, fun _ m => (nomatch m), p.keep, p.same⟩
      exact k v H1 Fs1 [] p0 rp
    · rw [if_neg hi] at h2; cases h2
  · exact h σ H δ Fs Q _ E s h1 k
def setF (Fs : FT) (i : Nat) (F : List Addr) : FT := fun j => if j = i then F else Fs j
theorem setF_same {Fs : FT} {i : Nat} {F : List Addr} : setF Fs i F i = F := if_pos rfl
theorem setF_ne {Fs : FT} {i j : Nat} {F : List Addr} (h : j ≠ i) : setF Fs i F j = Fs j := if_neg h
theorem de_mv {i : Nat} {x : Str} {pos : Pos} (n : NmS S i x) : DE S (.Name x pos) .own [i] (cMv i) := fun σ H δ Fs Q r E s hf k => by
  unfold cMv at hf
  cases e : δ[i]? with
  | none => rw [e] at hf; cases hf
  | some o =>
    cases o with
    | none => rw [e] at hf; cases hf
    | some d =>
      rw [e] at hf
      cases hf
      obtain ⟨v, hv, rp⟩ := E.at i d e
      have hi : i < δ.length := (List.getElem?_eq_some_iff.mp e).1
      refine ⟨_, fun X hX => n.pe hX, v, hv, k v H (setF Fs i []) (Fs i) ⟨⟨?_, fun j dj h => ?_, fun j h => ?_⟩, ⟨s.nds i, fun j => ?_, fun j l hjl a m => ?_, fun j a m => ?_⟩, rp.trk, fun j hj a m => ?_, fun a m => .inl ⟨i, List.mem_cons_self, m⟩, .refl, fun j hj => ?_⟩ rp⟩
      · rw [List.length_set]; exact E.len
      · by_cases q : i = j
        · subst q
          rw [List.getElem?_set_self hi] at h
          cases h
        · rw [List.getElem?_set_ne q] at h
          rw [setF_ne (Ne.symm q)]
          exact E.at j dj h
      · by_cases q : j = i
        · rw [q, setF_same]
        · rw [setF_ne q]
          exact E.no j fun dj hh => h dj (by rw [List.getElem?_set_ne (Ne.symm q)]; exact hh)
      · by_cases q : j = i
        · rw [q, setF_same]; exact List.nodup_nil
        · rw [setF_ne q]; exact s.nds j
      · by_cases q : j = i
        · rw [q, setF_same] at m; cases m
        · rw [setF_ne q] at m
          by_cases q2 : l = i
          · rw [q2, setF_same]; exact fun z => (nomatch z)
          · rw [setF_ne q2]; exact s.dis j l hjl a m
      · by_cases q : j = i
        · rw [q, setF_same]; exact fun z => (nomatch z)
        · rw [setF_ne q]; exact s.dis i j (Ne.symm q) a m
      · have q : j = i := by simpa using hj
        rw [q, setF_same] at m; cases m
      · have q : j ≠ i := by simpa using hj
        exact ⟨setF_ne q, List.getElem?_set_ne (Ne.symm q)⟩
/-! ### displays -/
def isOwn : Kd → Bool
  | .own => true
  | _ => false
theorem owns_of {κs : List Kd} (h : κs.all isOwn = true) : ∀ κ ∈ κs, κ = .own := fun κ m => by
  have := List.all_eq_true.mp h κ m
  cases κ <;> first | rfl | cases this
@[simp] def gTup : List D → Option D := fun ds => if ds.length ≤ 1000000 then some (.tuple ds) else none
@[simp] def gLst : List D → Option D := fun ds => if ds.length ≤ 1000000 then some (.list ds) else none
theorem lim_line {n : Nat} (h : n ≤ 1000000) : n ≤ sizeLine := by rw [sizeLine_eq]; omega
theorem lim_lt {n : Nat} (h : n < 1000000) : n < sizeLine := by rw [sizeLine_eq]; omega
/-- what is free behind was free before, or a touched slot's -/
theorem Post.old {K : PySem.W.Frag} {M : List Nat} {H H' : Hp} {δ δ' : DEnv} {Fs Fs' : FT} {σ' : L2.St} {Fr : List Addr} {a : Addr} (p : Post K M H δ Fs σ' H' δ' Fs' Fr) (hq : H' a = none) : InM M Fs a ∨ H a = none := by
  by_cases hb : InM M Fs a
  · exact .inl hb
  · cases h : H a with
    | none => exact .inr rfl
    | some o => rw [p.keep a o h (.inl hb)] at hq; cases hq
theorem Post.newT {K : PySem.W.Frag} {M : List Nat} {H H1 : Hp} {δ δ1 : DEnv} {Fs Fs1 : FT} {σ : L2.St} {F : List Addr} {p : Addr} {o : HO} (q : Post K M H δ Fs σ H1 δ1 Fs1 F) (hp : H1 p = none) : Post K M H δ Fs σ (upd H1 p o) δ1 Fs1 F := by
  have k1 : Keep (fun _ => False) H1 (upd H1 p o) := .new hp
  refine ⟨q.env.keep k1 fun _ _ _ h => h, q.sep, fun a m => ?_, q.sub, q.subr, q.keep.trans k1 (fun _ _ h => h) fun _ _ h => h.elim, q.same⟩
  obtain ⟨u, e, h⟩ := q.trk a m
  exact ⟨u, k1 a u e (.inl fun z => z), h⟩
theorem de_tup {es : List Expr} {κs : List Kd} {M : List Nat} {f : EM (List D)} {n : Nat} {pos : Pos} (hA : DA S es κs M f) (ho : κs.all isOwn = true) (hp : Plain es) : DE S (.Tuple es n pos) .own M (cV f gTup) := fun σ H δ Fs Q r E s hf k => by
  refine ⟨_, fun X hX => pe_tup (pa_tB hX hp), ?_⟩
  show tBA S es σ H fun xs H1 => xs.length ≤ sizeLine ∧ ∀ p, H1 p = none → Q (.ref p) (upd H1 p (.tup xs))
  rcases bind_some hf with ⟨ds, δ1, h1, h2⟩ | ⟨x, h1, rfl⟩
  · by_cases hl : ds.length ≤ 1000000
    · rw [gTup, if_pos hl] at h2
      cases h2
      refine hA σ H δ Fs _ _ E s h1 fun vs H1 Fs1 Frs p o => ?_
      have rs := o.owns (owns_of ho)
      refine ⟨by rw [rs.length]; exact lim_line hl, fun q hq => k _ _ Fs1 Frs.flatten (p.newT hq) (.tup (.inl (.inl upd_same)) ?_)⟩
      exact rs.keep (Keep.new hq (B := fun _ => False)) fun _ _ h => h
    · rw [gTup, if_neg hl] at h2; cases h2
  · exact hA σ H δ Fs _ _ E s h1 k
theorem de_lst {es : List Expr} {κs : List Kd} {M : List Nat} {f : EM (List D)} {pos : Pos} (hA : DA S es κs M f) (ho : κs.all isOwn = true) (hp : Plain es) : DE S (.List es pos) .own M (cV f gLst) := fun σ H δ Fs Q r E s hf k => by
  refine ⟨_, fun X hX => pe_lst (pa_tB hX hp), ?_⟩
  show tBA S es σ H fun xs H1 => xs.length ≤ sizeLine ∧ ∀ p, H1 p = none → Q (.ref p) (upd H1 p (.lst xs))
  rcases bind_some hf with ⟨ds, δ1, h1, h2⟩ | ⟨x, h1, rfl⟩
  · by_cases hl : ds.length ≤ 1000000
    · rw [gLst, if_pos hl] at h2
      cases h2
      refine hA σ H δ Fs _ _ E s h1 fun vs H1 Fs1 Frs p o => ?_
      have rs := o.owns (owns_of ho)
      refine ⟨by rw [rs.length]; exact lim_line hl, fun q hq => ?_⟩
      have rs2 := rs.keep (Keep.new hq (o := .lst vs) (B := fun _ => False)) fun _ _ h => h
      have p2 := p.newT (o := .lst vs) hq
      have nq : ∀ a, (∃ o, H1 a = some o ∧ mutO o = true) → a ≠ q := fun a ⟨o, e, _⟩ z => by rw [z, hq] at e; cases e
      refine k _ _ Fs1 (q :: Frs.flatten) ⟨p2.env, ⟨?_, p2.sep.nds, p2.sep.dis, fun i a m => ?_⟩, fun a m => ?_, p2.sub, fun a m => ?_, p2.keep, p2.same⟩ (.lst upd_same rs2)
      · exact List.nodup_cons.mpr ⟨fun m => nq q (p.trk q m) rfl, p.sep.ndr⟩
      · rcases List.mem_cons.mp m with e | m
        · subst e
          exact fun z => nq a (p.env.trk z) rfl
        · exact p.sep.dir i a m
      · rcases List.mem_cons.mp m with e | m
        · subst e; exact ⟨_, upd_same, rfl⟩
        · exact p2.trk a m
      · rcases List.mem_cons.mp m with e | m
        · subst e
          exact p.old hq
        · exact p.subr a m
    · rw [gLst, if_neg hl] at h2; cases h2
  · exact hA σ H δ Fs _ _ E s h1 k
end DL
/-! DL3: operators, comparisons, built-ins of values. -/
namespace DL
open PySem PySem.Spec PyProof.Rows L2
variable {S : Sig}
theorem Reps.i1 {K : PySem.W.Frag} {H : Hp} {vs : List V} {d : D} {F : List Addr} (r : Reps K H vs [d] F) : ∃ v G, vs = [v] ∧ Rep K H v d G := by
  cases r with
  | cons a t => cases t; exact ⟨_, _, rfl, a⟩
theorem Reps.i2 {K : PySem.W.Frag} {H : Hp} {vs : List V} {d e : D} {F : List Addr} (r : Reps K H vs [d, e] F) : ∃ v w G1 G2, vs = [v, w] ∧ Rep K H v d G1 ∧ Rep K H w e G2 := by
  cases r with
  | cons a t =>
    obtain ⟨w, G, rfl, b⟩ := t.i1
    exact ⟨_, _, _, _, rfl, a, b⟩
theorem Reps.i3 {K : PySem.W.Frag} {H : Hp} {vs : List V} {d e g : D} {F : List Addr} (r : Reps K H vs [d, e, g] F) : ∃ v w x G1 G2 G3, vs = [v, w, x] ∧ Rep K H v d G1 ∧ Rep K H w e G2 ∧ Rep K H x g G3 := by
  cases r with
  | cons a t =>
    obtain ⟨w, x, G, G', rfl, b, c⟩ := t.i2
    exact ⟨_, _, _, _, _, _, rfl, a, b, c⟩
theorem imms_append {ds es : List D} : imms (ds ++ es) = (imms ds && imms es) := by
  induction ds with
  | nil => simp [imms]
  | cons d r ih => simp [imms, ih, Bool.and_assoc]
theorem imms_all {ds : List D} : imms ds = true ↔ ∀ d ∈ ds, imm d = true := by
  induction ds with
  | nil => simp [imms]
  | cons d r ih => simp [imms, ih]
/-- a new object that may change, of things that don't -/
theorem NewV.lst {K : PySem.W.Frag} {H : Hp} {p : Addr} {vs : List V} {ds : List D} (hp : H p = none) (r : Reps K H vs ds []) : NewV K H (.ref p) (.list ds) (upd H p (.lst vs)) [p] :=
  ⟨.new hp, .lst upd_same (r.keep (Keep.new hp (B := fun _ => False)) fun _ m => (nomatch m)), fun a m => (List.mem_singleton.mp m) ▸ hp, by simp⟩
theorem NewV.tup {K : PySem.W.Frag} {H : Hp} {p : Addr} {vs : List V} {ds : List D} (hp : H p = none) (r : Reps K H vs ds []) : NewV K H (.ref p) (.tuple ds) (upd H p (.tup vs)) [] :=
  ⟨.new hp, .tup (.inl (.inl upd_same)) (r.keep (Keep.new hp (B := fun _ => False)) fun _ m => (nomatch m)), fun _ m => (nomatch m), List.nodup_nil⟩
theorem Reps.imm' {K : PySem.W.Frag} {H : Hp} {vs : List V} {ds : List D} {F : List Addr} (r : Reps K H vs ds F) (h : DL.imms ds = true) : Reps K H vs ds [] := by
  have e := r.imm h
  subst e
  exact r
theorem Rep.imm' {K : PySem.W.Frag} {H : Hp} {v : V} {d : D} {F : List Addr} (r : Rep K H v d F) (h : DL.imm d = true) : Rep K H v d [] := by
  have e := r.imm h
  subst e
  exact r
theorem Rep.iInt {K : PySem.W.Frag} {H : Hp} {v : V} {i : Int} {F : List Addr} (r : Rep K H v (.int i) F) : v = .int i := by cases r; rfl
theorem Rep.iStr {K : PySem.W.Frag} {H : Hp} {v : V} {i : Str} {F : List Addr} (r : Rep K H v (.str i) F) : v = .str i := by cases r; rfl
theorem Rep.iBl {K : PySem.W.Frag} {H : Hp} {v : V} {i : Bool} {F : List Addr} (r : Rep K H v (.bool i) F) : v = .bl i := by cases r; rfl
theorem Rep.iNon {K : PySem.W.Frag} {H : Hp} {v : V} {F : List Addr} (r : Rep K H v .none F) : v = .non := by cases r; rfl
theorem Rep.iLst {K : PySem.W.Frag} {H : Hp} {v : V} {ds : List D} {F : List Addr} (r : Rep K H v (.list ds) F) : ∃ a vs G, v = .ref a ∧ H a = some (.lst vs) ∧ Reps K H vs ds G ∧ F = a :: G := by
  cases r with
  | lst h t => exact ⟨_, _, _, rfl, h, t, rfl⟩
theorem Rep.iTup {K : PySem.W.Frag} {H : Hp} {v : V} {ds : List D} {F : List Addr} (r : Rep K H v (.tuple ds) F) : ∃ a vs, v = .ref a ∧ SqT K H a vs ∧ Reps K H vs ds F := by
  cases r with
  | tup h t => exact ⟨_, _, rfl, h, t⟩
theorem sqL_of {K : PySem.W.Frag} {H : Hp} {a : Addr} {vs : List V} (h : H a = some (.lst vs)) : SqL K H a vs := .inl (.inl h)
/-! ### the forms of the tree -/
section
variable {a b : Expr} {pos : Pos}
theorem f_bin {op : Operator} {r : R2} (h : ∀ X, Fits S X → OpR X (binaryOp op) r) : ∀ X, Fits S X → PE X (.BinOp a op b pos) (fun σ H Q => tBA S [a, b] σ H fun vs H1 => l2 r vs H1 Q) := fun X hX => pe_op (h X hX) (pe_tB hX) (pe_tB hX)
theorem f_un {op : UnaryOp} {r : V → Hp → VK → Prop} (h : ∀ X, Fits S X → UnR X (unaryOp op) r) : ∀ X, Fits S X → PE X (.UnaryOp op a pos) (fun σ H Q => tBA S [a] σ H fun vs H1 => l1 r vs H1 Q) := fun X hX => pe_un (h X hX) (pe_tB hX)
theorem f_cmp {op : CmpOp} {r : R2} (h : ∀ X, Fits S X → OpR X (compareOp op) r) (hm : behindInMarks op b = false) : ∀ X, Fits S X → PE X (.Compare a [op] [b] pos) (fun σ H Q => tBA S [a, b] σ H fun vs H1 => l2 r vs H1 Q) := fun X hX => pe_cmpR (h X hX) (pe_tB hX) (pe_tB hX) hm
theorem f_ix {r : R2} (h : ∀ X, Fits S X → IxR X r) (hs : PlainIx b) : ∀ X, Fits S X → PE X (.Subscript a b pos) (fun σ H Q => tBA S [a, b] σ H fun vs H1 => l2 r vs H1 Q) := fun X hX => pe_ix (h X hX) (pe_tB hX) (pe_tB hX) hs
/-- a module's or built-in name that no statement of the top binds -/
structure BtS (S : Sig) (x : Str) : Prop where
  gl : S.sc.names.lookup x = some .globalImplicit
  mg : S.mg x = none
theorem BtS.g {X : Cx} {x : Str} (h : BtS S x) (hX : Fits S X) : Gl X x := by
  show X.env.scope.names.lookup x = _
  rw [hX.sc]; exact h.gl
theorem BtS.m {X : Cx} {x : Str} (h : BtS S x) (hX : Fits S X) : X.mg x = none := by rw [hX.mg]; exact h.mg
theorem plain_any {pos : Pos} {env : Env} : ∀ {es : List Expr}, Plain es → (backTo pos (starEach es env)).any (·.1) = false
  | [], _ => rfl
  | e :: es, p => by
    rw [p.1]
    unfold backTo
    simp only [List.map_cons, List.any_cons]
    have ih := plain_any (pos := pos) (env := env) p.2
    unfold backTo at ih
    rw [ih]
    rfl
theorem f_callB {x : Str} {id : String} {p : Pos} {e : Expr} {es : List Expr} {r : List V → Hp → VK → Prop} (n : BtS S x) (h : ∀ X, Fits S X → CallR X (.builtin id) r) (hv : bootBuiltins x = some (.builtin id)) (hp : Plain (e :: es)) (hn : x ≠ "__name__" := by decide) (hdb : (x == ("__debug__" : Str)) = false := by decide)
    : ∀ X, Fits S X → PE X (.Call (.Name x p) (e :: es) [] pos) (fun σ H Q => tBA S (e :: es) σ H fun vs H1 => r vs H1 Q) := fun X hX =>
  pe_callB (h X hX) (n.g hX) (n.m hX) hv (pa_tB hX hp) hn hdb (hp.1 _) (plain_any hp.2)
theorem f_callTy {x : Str} {id : String} {p : Pos} {e : Expr} {es : List Expr} {r : List V → Hp → VK → Prop} (n : BtS S x) (h : ∀ X, Fits S X → CallR X (.type id) r) (hv : bootBuiltins x = some (.type id)) (hp : Plain (e :: es)) (hn : x ≠ "__name__" := by decide) (hdb : (x == ("__debug__" : Str)) = false := by decide)
    : ∀ X, Fits S X → PE X (.Call (.Name x p) (e :: es) [] pos) (fun σ H Q => tBA S (e :: es) σ H fun vs H1 => r vs H1 Q) := fun X hX =>
  pe_callTy (h X hX) (n.g hX) (n.m hX) hv (pa_tB hX hp) hn hdb (hp.1 _) (plain_any hp.2)
end
/-! ### arithmetic on ints by a rule -/
@[simp] def gI (C : Int → Int → Prop) [∀ i j, Decidable (C i j)] (g : Int → Int → D) : List D → Option D
  | [.int i, .int j] => if C i j then some (g i j) else none
  | _ => none
theorem gI_inv {C : Int → Int → Prop} [∀ i j, Decidable (C i j)] {g : Int → Int → D} {ds : List D} {d : D} (h : gI C g ds = some d) : ∃ i j, ds = [.int i, .int j] ∧ C i j ∧ d = g i j := by
  unfold gI at h
  split at h
  · rename_i i j
    by_cases c : C i j
    · rw [if_pos c] at h; exact ⟨i, j, rfl, c, (Option.some.inj h).symm⟩
    · rw [if_neg c] at h; cases h
  · cases h
theorem vok_I {C : Int → Int → Prop} {g : Int → Int → V} {i j : Int} {d : D} (c : C i j) (h : ∀ H, Rep S.K H (g i j) d []) : VOk S.K (l2 (rI C g)) [.int i, .int j] d := fun H vs F Q r k => by
  obtain ⟨v, w, _, _, rfl, r1, r2⟩ := r.i2
  exact ⟨i, j, r1.iInt, r2.iInt, c, k _ H [] (.same (h H))⟩
theorem vok_I0 {g : Int → Int → V} {i j : Int} {d : D} (h : ∀ H, Rep S.K H (g i j) d []) : VOk S.K (l2 (rI0 g)) [.int i, .int j] d := fun H vs F Q r k => by
  obtain ⟨v, w, _, _, rfl, r1, r2⟩ := r.i2
  exact ⟨i, j, r1.iInt, r2.iInt, k _ H [] (.same (h H))⟩
instance {i j : Int} : Decidable (CMul i j) := by unfold CMul; infer_instance
instance {i j : Int} : Decidable (CDiv i j) := by unfold CDiv; infer_instance
instance {i j : Int} : Decidable (CPow i j) := by unfold CPow; infer_instance
section
variable {a b : Expr} {pos : Pos} {κs : List Kd} {M : List Nat} {f : EM (List D)}
@[simp] def gSub : List D → Option D := gI (fun _ _ => True) fun i j => .int (i - j)
@[simp] def gMul : List D → Option D := gI CMul fun i j => .int (i * j)
@[simp] def gFdiv : List D → Option D := gI CDiv fun i j => .int (i / j)
@[simp] def gMod : List D → Option D := gI (fun _ j => 0 < j) fun i j => .int (i % j)
@[simp] def gPow : List D → Option D := gI CPow fun i j => .int (i ^ j.toNat)
@[simp] def gShl : List D → Option D := gI CPow fun i j => .int (i * 2 ^ j.toNat)
@[simp] def gShr : List D → Option D := gI (fun _ j => 0 ≤ j) fun i j => .int (i / 2 ^ j.toNat)
@[simp] def gAnd : List D → Option D := gI (fun _ _ => True) fun i j => .int (Builtin.bitAnd i j)
@[simp] def gOr : List D → Option D := gI (fun _ _ => True) fun i j => .int (Builtin.bitOr i j)
theorem de_sub (hA : DA S [a, b] κs M f) : DE S (.BinOp a .Sub b pos) .own M (cV f gSub) := de_v hA ⟨_, f_bin fun _ _ => op_sub⟩ fun ds dz h => by
  obtain ⟨i, j, rfl, _, rfl⟩ := gI_inv h
  exact ⟨_, f_bin fun _ _ => op_sub, vok_I0 fun _ => .int _⟩
theorem de_mul (hA : DA S [a, b] κs M f) : DE S (.BinOp a .Mult b pos) .own M (cV f gMul) := de_v hA ⟨_, f_bin fun _ _ => op_mul⟩ fun ds dz h => by
  obtain ⟨i, j, rfl, c, rfl⟩ := gI_inv h
  exact ⟨_, f_bin fun _ _ => op_mul, vok_I c fun _ => .int _⟩
theorem de_fdiv (hA : DA S [a, b] κs M f) : DE S (.BinOp a .FloorDiv b pos) .own M (cV f gFdiv) := de_v hA ⟨_, f_bin fun _ _ => op_fdiv⟩ fun ds dz h => by
  obtain ⟨i, j, rfl, c, rfl⟩ := gI_inv h
  exact ⟨_, f_bin fun _ _ => op_fdiv, vok_I c fun _ => .int _⟩
theorem de_mod (hA : DA S [a, b] κs M f) : DE S (.BinOp a .Mod b pos) .own M (cV f gMod) := de_v hA ⟨_, f_bin fun _ _ => op_mod⟩ fun ds dz h => by
  obtain ⟨i, j, rfl, c, rfl⟩ := gI_inv h
  exact ⟨_, f_bin fun _ _ => op_mod, vok_I c fun _ => .int _⟩
theorem de_pow (hA : DA S [a, b] κs M f) : DE S (.BinOp a .Pow b pos) .own M (cV f gPow) := de_v hA ⟨_, f_bin fun _ _ => op_pow⟩ fun ds dz h => by
  obtain ⟨i, j, rfl, c, rfl⟩ := gI_inv h
  exact ⟨_, f_bin fun _ _ => op_pow, vok_I c fun _ => .int _⟩
theorem de_shl (hA : DA S [a, b] κs M f) : DE S (.BinOp a .LShift b pos) .own M (cV f gShl) := de_v hA ⟨_, f_bin fun _ _ => op_shl⟩ fun ds dz h => by
  obtain ⟨i, j, rfl, c, rfl⟩ := gI_inv h
  exact ⟨_, f_bin fun _ _ => op_shl, vok_I c fun _ => .int _⟩
theorem de_shr (hA : DA S [a, b] κs M f) : DE S (.BinOp a .RShift b pos) .own M (cV f gShr) := de_v hA ⟨_, f_bin fun _ _ => op_shr⟩ fun ds dz h => by
  obtain ⟨i, j, rfl, c, rfl⟩ := gI_inv h
  exact ⟨_, f_bin fun _ _ => op_shr, vok_I c fun _ => .int _⟩
theorem de_band (hA : DA S [a, b] κs M f) : DE S (.BinOp a .BitAnd b pos) .own M (cV f gAnd) := de_v hA ⟨_, f_bin fun _ _ => op_and⟩ fun ds dz h => by
  obtain ⟨i, j, rfl, c, rfl⟩ := gI_inv h
  exact ⟨_, f_bin fun _ _ => op_and, vok_I0 fun _ => .int _⟩
theorem de_bor (hA : DA S [a, b] κs M f) : DE S (.BinOp a .BitOr b pos) .own M (cV f gOr) := de_v hA ⟨_, f_bin fun _ _ => op_or⟩ fun ds dz h => by
  obtain ⟨i, j, rfl, c, rfl⟩ := gI_inv h
  exact ⟨_, f_bin fun _ _ => op_or, vok_I0 fun _ => .int _⟩
@[simp] def gNeg : List D → Option D
  | [.int i] => some (.int (-i))
  | _ => none
theorem de_neg {f : EM (List D)} (hA : DA S [a] κs M f) : DE S (.UnaryOp .USub a pos) .own M (cV f gNeg) := de_v hA ⟨_, f_un fun _ _ => un_neg⟩ fun ds dz h => by
  unfold gNeg at h
  split at h
  · cases h
    refine ⟨_, f_un fun _ _ => un_neg, fun H vs F Q r k => ?_⟩
    obtain ⟨v, _, rfl, r1⟩ := r.i1
    exact ⟨_, r1.iInt, k _ H [] (.same (.int _))⟩
  · cases h
/-- a + b: ints, texts, lists, tuples -/
@[simp] def gAdd : List D → Option D
  | [.int i, .int j] => some (.int (i + j))
  | [.str x, .str y] => if x.length + y.length ≤ 1000000 then some (.str (x ++ y)) else none
  | [.list xs, .list ys] => if imms xs = true ∧ imms ys = true ∧ xs.length + ys.length ≤ 1000000 then some (.list (xs ++ ys)) else none
  | [.tuple xs, .tuple ys] => if imms xs = true ∧ imms ys = true ∧ xs.length + ys.length ≤ 1000000 then some (.tuple (xs ++ ys)) else none
  | _ => none
theorem Reps.nil_iff {K : PySem.W.Frag} {H : Hp} {vs : List V} {ds : List D} {F : List Addr} (r : Reps K H vs ds F) : vs = [] ↔ ds = [] := by
  have := r.length
  constructor
  · rintro rfl; exact List.eq_nil_of_length_eq_zero this.symm
  · rintro rfl; exact List.eq_nil_of_length_eq_zero this
theorem de_add (hA : DA S [a, b] κs M f) : DE S (.BinOp a .Add b pos) .own M (cV f gAdd) := de_v hA ⟨_, f_bin fun _ _ => op_add⟩ fun ds dz h => by
  unfold gAdd at h
  split at h
  · cases h
    exact ⟨_, f_bin fun _ _ => op_add, vok_I0 fun _ => .int _⟩
  · rename_i x y
    split at h
    · rename_i hl
      cases h
      refine ⟨_, f_bin fun _ _ => op_add_str, fun H vs F Q r k => ?_⟩
      obtain ⟨v, w, _, _, rfl, r1, r2⟩ := r.i2
      exact ⟨_, _, r1.iStr, r2.iStr, lim_line hl, k _ H [] (.same (.str _))⟩
    · cases h
  · rename_i xs ys
    split at h
    · rename_i hl
      cases h
      refine ⟨_, f_bin fun _ _ => op_cat, fun H vs F Q r k => ?_⟩
      obtain ⟨v, w, _, _, rfl, r1, r2⟩ := r.i2
      obtain ⟨p, vs, G, rfl, hp, s1, _⟩ := r1.iLst
      obtain ⟨q, ws, G', rfl, hq, s2, _⟩ := r2.iLst
      refine ⟨p, q, vs, ws, rfl, rfl, hp, hq, by rw [s1.length, s2.length]; exact lim_line hl.2.2, fun z hz => k _ _ _ (NewV.lst hz ?_)⟩
      exact (s1.imm' hl.1).append (s2.imm' hl.2.1)
    · cases h
  · rename_i xs ys
    split at h
    · rename_i hl
      cases h
      refine ⟨_, f_bin fun X hX => (by have e := op_catA (X := X); rw [hX.K] at e; exact e), fun H vs F Q r k => ?_⟩
      obtain ⟨v, w, _, _, rfl, r1, r2⟩ := r.i2
      obtain ⟨p, vs, rfl, hp, s1⟩ := (r1.imm' (by rw [imm_tup]; exact hl.1)).iTup
      obtain ⟨q, ws, rfl, hq, s2⟩ := (r2.imm' (by rw [imm_tup]; exact hl.2.1)).iTup
      refine ⟨p, q, vs, ws, rfl, rfl, hp, hq, by rw [s1.length, s2.length]; exact lim_line hl.2.2, fun e => ?_, fun e1 e2 => ?_, fun _ _ z hz => k _ _ _ (NewV.tup hz (s1.append s2))⟩
      · have e' := s1.nil_iff.mp e
        subst e'
        exact k _ _ [] (.same (.tup hq s2))
      · have e' := s2.nil_iff.mp e2
        subst e'
        exact k _ _ [] (.same (by rw [List.append_nil]; exact .tup hp s1))
    · cases h
  · cases h
end
end DL
/-! DL4: comparisons, subscripts, slices, built-ins. -/
namespace DL
open PySem PySem.Spec PyProof.Rows L2
variable {S : Sig}
theorem Fits.u64 {X : Cx} (h : Fits S X) : X.A.units + 64 < cLine := h.room.units
theorem Fits.u65 {X : Cx} (h : Fits S X) : X.A.units + 65 < cLine := by have := h.room.un; omega
theorem Fits.u0 {X : Cx} (h : Fits S X) : X.A.units < cLine := h.room.units0
mutual
theorem Rep.dp {K : PySem.W.Frag} {H : Hp} : ∀ {v : V} {d : D} {F : List Addr}, Rep K H v d F → PyData.canLay0 d = true → Dp K H v d
  | _, _, _, .non, _ => .non
  | _, _, _, .bl b, _ => .bl b
  | _, _, _, .int i, _ => .int i
  | _, _, _, .str x, _ => .str x
  | _, _, _, .tup h r, e => .tup h (Reps.dp r (by rw [PyData.canLay0] at e; exact e))
  | _, _, _, .lst h r, e => .lst (sqL_of h) (Reps.dp r (by rw [PyData.canLay0] at e; exact e))
  | _, _, _, .dK _ _ _, e => by rw [PyData.canLay0] at e; cases e
  | _, _, _, .dT _ _ _, e => by rw [PyData.canLay0] at e; cases e
theorem Reps.dp {K : PySem.W.Frag} {H : Hp} : ∀ {vs : List V} {ds : List D} {F : List Addr}, Reps K H vs ds F → PyData.canLayAll0 ds = true → DpAll K H vs ds
  | _, _, _, .nil, _ => .nil
  | _, _, _, .cons r t, e => by
    rw [PyData.canLayAll0, Bool.and_eq_true] at e
    exact .cons (Rep.dp r e.1) (Reps.dp t e.2)
end
theorem shaped_lay {d : D} (h : SeqAt.shaped d = true) : PyData.canLay0 d = true := SeqAt.canLay_of_shaped h
/-- a comparison, by values -/
structure CmpOk (S : Sig) (op : CmpOp) (g : List D → Option D) : Prop where
  some_ : ∃ r : R2, ∀ X, Fits S X → OpR X (compareOp op) r
  all_ : ∀ ds dz, g ds = some dz → ∃ r : R2, (∀ X, Fits S X → OpR X (compareOp op) r) ∧ VOk S.K (l2 r) ds dz
/-! ### == -/
/-- == of two values -/
@[simp] def eqD : D → D → Option Bool
  | .int i, .int j => some (decide (i = j))
  | .str x, .str y => some (decide (x = y))
  | .bool x, .bool y => some (decide (x = y))
  | d, e => if SeqAt.shaped d = true ∧ SeqAt.shaped e = true then some (PyData.eqv d e) else none
@[simp] def gEq : List D → Option D
  | [d, e] => (eqD d e).map .bool
  | _ => none
@[simp] def gNe : List D → Option D
  | [d, e] => (eqD d e).map fun b => .bool (!b)
  | _ => none
theorem eq_rule {op : CmpOp} {n : Bool → Bool} (h1 : ∀ X, OpR X (compareOp op) (fun x y H Q => scal x y = true ∧ Q (.bl (n (decide (x = y)))) H))
    (h2 : ∀ X : Cx, X.A.units + 64 < cLine → OpR X (compareOp op) (fun x y H Q => ∃ d e, Dp X.K H x d ∧ Dp X.K H y e ∧ SeqAt.shaped d = true ∧ SeqAt.shaped e = true ∧ Q (.bl (n (PyData.eqv d e))) H)) {d e : D} {b : Bool} (h : eqD d e = some b) :
    ∃ r : R2, (∀ X, Fits S X → OpR X (compareOp op) r) ∧ VOk S.K (l2 r) [d, e] (.bool (n b)) := by
  have sc : ∀ (x y : V), scal x y = true → (∀ H v F, Rep S.K H v d F → v = x) → (∀ H v F, Rep S.K H v e F → v = y) → decide (x = y) = b →
      ∃ r : R2, (∀ X, Fits S X → OpR X (compareOp op) r) ∧ VOk S.K (l2 r) [d, e] (.bool (n b)) := fun x y hs hx hy hb => by
    refine ⟨_, fun X _ => h1 X, fun H vs F Q r k => ?_⟩
    obtain ⟨v, w, _, _, rfl, r1, r2⟩ := r.i2
    have e1 := hx _ _ _ r1
    have e2 := hy _ _ _ r2
    subst e1 e2 hb
    exact ⟨hs, k _ H [] (.same (.bl _))⟩
  unfold eqD at h
  split at h
  · rename_i i j
    exact sc (.int i) (.int j) rfl (fun _ _ _ r => r.iInt) (fun _ _ _ r => r.iInt) (by cases h; simp)
  · rename_i i j
    exact sc (.str i) (.str j) rfl (fun _ _ _ r => r.iStr) (fun _ _ _ r => r.iStr) (by cases h; simp)
  · rename_i i j
    exact sc (.bl i) (.bl j) rfl (fun _ _ _ r => r.iBl) (fun _ _ _ r => r.iBl) (by cases h; simp)
  · split at h
    · rename_i hs
      cases h
      refine ⟨fun x y H Q => ∃ d e, Dp S.K H x d ∧ Dp S.K H y e ∧ SeqAt.shaped d = true ∧ SeqAt.shaped e = true ∧ Q (.bl (n (PyData.eqv d e))) H, fun X hX => (by rw [← hX.K]; exact h2 X hX.u64), fun H vs F Q r k => ?_⟩
      obtain ⟨v, w, _, _, rfl, r1, r2⟩ := r.i2
      exact ⟨_, _, r1.dp (shaped_lay hs.1), r2.dp (shaped_lay hs.2), hs.1, hs.2, k _ H [] (.same (.bl _))⟩
    · cases h
section
variable {a b : Expr} {pos : Pos} {κs : List Kd} {M : List Nat} {f : EM (List D)}
theorem co_eq : CmpOk S .Eq gEq := ⟨⟨_, fun _ _ => op_eq⟩, fun ds dz h => by
  unfold gEq at h
  split at h
  · rename_i d e
    cases q : eqD d e with
    | none => rw [q] at h; cases h
    | some x =>
      rw [q] at h
      cases h
      obtain ⟨r, h1, h2⟩ := eq_rule (S := S) (n := id) (fun _ => op_eq) (fun _ hu => op_eqD hu) q
      exact ⟨_, h1, h2⟩
  · cases h⟩
theorem co_ne : CmpOk S .NotEq gNe := ⟨⟨_, fun _ _ => op_ne⟩, fun ds dz h => by
  unfold gNe at h
  split at h
  · rename_i d e
    cases q : eqD d e with
    | none => rw [q] at h; cases h
    | some x =>
      rw [q] at h
      cases h
      obtain ⟨r, h1, h2⟩ := eq_rule (S := S) (n := not) (fun _ => op_ne) (fun _ hu => op_neD hu) q
      exact ⟨_, h1, h2⟩
  · cases h⟩
/-- < of ints, of texts -/
@[simp] def gLt : List D → Option D
  | [.int i, .int j] => some (.bool (decide (i < j)))
  | [.str i, .str j] => some (.bool (decide (i.cps.toList < j.cps.toList)))
  | _ => none
@[simp] def gLe : List D → Option D
  | [.int i, .int j] => some (.bool (decide (i ≤ j)))
  | [.str i, .str j] => some (.bool (!decide (j.cps.toList < i.cps.toList)))
  | _ => none
@[simp] def gGt : List D → Option D
  | [.int i, .int j] => some (.bool (decide (j < i)))
  | [.str i, .str j] => some (.bool (decide (j.cps.toList < i.cps.toList)))
  | _ => none
@[simp] def gGe : List D → Option D
  | [.int i, .int j] => some (.bool (decide (j ≤ i)))
  | [.str i, .str j] => some (.bool (!decide (i.cps.toList < j.cps.toList)))
  | _ => none
theorem vok_S {p : Str → Str → Bool} {i j : Str} : VOk S.K (l2 fun x y H Q => ∃ i j, x = .str i ∧ y = .str j ∧ Q (.bl (p i j)) H) [.str i, .str j] (.bool (p i j)) := fun H vs F Q r k => by
  obtain ⟨v, w, _, _, rfl, r1, r2⟩ := r.i2
  exact ⟨i, j, r1.iStr, r2.iStr, k _ H [] (.same (.bl _))⟩
theorem co_lt : CmpOk S .Lt gLt := ⟨⟨_, fun _ _ => op_lt⟩, fun ds dz h => by
  unfold gLt at h
  split at h
  · cases h; exact ⟨_, fun _ _ => op_lt, vok_I0 fun _ => .bl _⟩
  · cases h; exact ⟨_, fun _ _ => op_lt_str, vok_S (p := fun i j => decide (i.cps.toList < j.cps.toList))⟩
  · cases h⟩
theorem co_le : CmpOk S .LtE gLe := ⟨⟨_, fun _ _ => op_le⟩, fun ds dz h => by
  unfold gLe at h
  split at h
  · cases h; exact ⟨_, fun _ _ => op_le, vok_I0 fun _ => .bl _⟩
  · cases h; exact ⟨_, fun _ _ => op_le_str, vok_S (p := fun i j => !decide (j.cps.toList < i.cps.toList))⟩
  · cases h⟩
theorem co_gt : CmpOk S .Gt gGt := ⟨⟨_, fun _ _ => op_gt⟩, fun ds dz h => by
  unfold gGt at h
  split at h
  · cases h; exact ⟨_, fun _ _ => op_gt, vok_I0 fun _ => .bl _⟩
  · cases h; exact ⟨_, fun _ _ => op_gt_str, vok_S (p := fun i j => decide (j.cps.toList < i.cps.toList))⟩
  · cases h⟩
theorem co_ge : CmpOk S .GtE gGe := ⟨⟨_, fun _ _ => op_ge⟩, fun ds dz h => by
  unfold gGe at h
  split at h
  · cases h; exact ⟨_, fun _ _ => op_ge, vok_I0 fun _ => .bl _⟩
  · cases h; exact ⟨_, fun _ _ => op_ge_str, vok_S (p := fun i j => !decide (i.cps.toList < j.cps.toList))⟩
  · cases h⟩
/-- x is None -/
@[simp] def isN : D → Bool
  | .none => true
  | _ => false
theorem isN_V {K : PySem.W.Frag} {H : Hp} {v : V} {d : D} {F : List Addr} (r : Rep K H v d F) : decide (v = .non) = isN d := by
  cases r <;> simp [isN]
theorem de_isN (hA : DA S [a] κs M f) {j pos'} : DE S (.Compare a [.Is] [.Constant .none j pos'] pos) .own M (cV f fun ds => match ds with | [d] => some (.bool (isN d)) | _ => none) := by
  have g : ∀ X, Fits S X → PE X (.Compare a [.Is] [.Constant .none j pos'] pos) (fun σ H Q => tBA S [a] σ H fun vs H1 => l1 (fun x H Q => V.non = .non ∧ Q (.bl (decide (x = .non))) H) vs H1 Q) := fun X hX => pe_cmpR op_isN (pe_tB hX) pe_non (nomark _)
  refine de_v hA ⟨_, g⟩ fun ds dz h => ?_
  split at h
  · cases h
    refine ⟨_, g, fun H vs F Q r k => ?_⟩
    obtain ⟨v, _, rfl, r1⟩ := r.i1
    exact ⟨rfl, k _ H [] (.same (by rw [isN_V r1]; exact .bl _))⟩
  · cases h
theorem de_notN (hA : DA S [a] κs M f) {j pos'} : DE S (.Compare a [.IsNot] [.Constant .none j pos'] pos) .own M (cV f fun ds => match ds with | [d] => some (.bool (!isN d)) | _ => none) := by
  have g : ∀ X, Fits S X → PE X (.Compare a [.IsNot] [.Constant .none j pos'] pos) (fun σ H Q => tBA S [a] σ H fun vs H1 => l1 (fun x H Q => V.non = .non ∧ Q (.bl (!decide (x = .non))) H) vs H1 Q) := fun X hX => pe_cmpR op_notN (pe_tB hX) pe_non (nomark _)
  refine de_v hA ⟨_, g⟩ fun ds dz h => ?_
  split at h
  · cases h
    refine ⟨_, g, fun H vs F Q r k => ?_⟩
    obtain ⟨v, _, rfl, r1⟩ := r.i1
    exact ⟨rfl, k _ H [] (.same (by rw [isN_V r1]; exact .bl _))⟩
  · cases h
end
/-! ### x in c -/
def flatD : D → Bool
  | .none | .bool _ | .int _ | .str _ => true
  | _ => false
theorem flat_V {K : PySem.W.Frag} {H : Hp} {v : V} {d : D} {F : List Addr} (r : Rep K H v d F) (h : flatD d = true) : flatV v = true := by
  cases r <;> first | rfl | (cases h)
theorem flats_V {K : PySem.W.Frag} {H : Hp} : ∀ {vs : List V} {ds : List D} {F : List Addr}, Reps K H vs ds F → ds.all flatD = true → vs.all flatV = true
  | _, _, _, .nil, _ => rfl
  | _, _, _, .cons r t, h => by
    rw [List.all_cons, Bool.and_eq_true] at h ⊢
    exact ⟨flat_V r h.1, flats_V t h.2⟩
theorem eqV_D {K : PySem.W.Frag} {H : Hp} {v w : V} {d e : D} {F G : List Addr} (r : Rep K H v d F) (s : Rep K H w e G) (h : flatD d = true) (h' : flatD e = true) : eqV v w = PyData.eqv d e := by
  cases r <;> first | (cases h; done) | (cases s <;> first | (cases h'; done) | (simp [eqV, PyData.eqv]))
theorem inV_D {K : PySem.W.Frag} {H : Hp} {w : V} {e : D} {G : List Addr} (s : Rep K H w e G) (h' : flatD e = true) : ∀ {vs : List V} {ds : List D} {F : List Addr}, Reps K H vs ds F → ds.all flatD = true → inV w vs = ds.any fun z => PyData.eqv z e
  | _, _, _, .nil, _ => rfl
  | _, _, _, .cons r t, h => by
    rw [List.all_cons, Bool.and_eq_true] at h
    have ih := inV_D s h' t h.2
    unfold inV at ih ⊢
    rw [List.any_cons, List.any_cons, eqV_D r s h.1 h', ih]
def rInT (K : PySem.W.Frag) (n : Bool → Bool) : R2 := fun x y H Q => ∃ d ds, Dp K H x d ∧ Dp K H y (.tuple ds) ∧ SeqAt.shaped d = true ∧ SeqAt.shaped (.tuple ds) = true ∧ Q (.bl (n (ds.any fun z => PyData.eqv z d))) H
theorem room_in_shapedT {A : Around} {d : PyData} {ds : List PyData} (h : SeqAt.shaped d = true) (hu : A.units + 65 < cLine) : A.units + 1 + min (PyData.depthAll ds) d.depth < cLine := by
  have := SeqAt.depth_of_shaped h
  have := Nat.min_le_right (PyData.depthAll ds) d.depth
  omega
theorem op_inT {X : Cx} (hu : X.A.units + 65 < cLine) : OpR X (compareOp .In) (rInT X.K id) := by
  intro pins s σ H x y v u Q I rx ry h
  obtain ⟨d, ds, hd, he, sd, se, q⟩ := h
  obtain ⟨as, r1⟩ := Dp.reads I d x v hd rx
  obtain ⟨bs, r2⟩ := Dp.reads I (.tuple ds) y u he ry
  exact SeqAt.in_tuple_reads r2 r1 (by have := SeqAt.canLay_of_shaped se; rw [PyData.canLay0] at this; exact this) (SeqAt.canLay_of_shaped sd) (room_in_shapedT sd hu) ⟨.bl _, H, I, rfl, q⟩
theorem op_notInT {X : Cx} (hu : X.A.units + 65 < cLine) : OpR X (compareOp .NotIn) (rInT X.K not) := by
  intro pins s σ H x y v u Q I rx ry h
  obtain ⟨d, ds, hd, he, sd, se, q⟩ := h
  obtain ⟨as, r1⟩ := Dp.reads I d x v hd rx
  obtain ⟨bs, r2⟩ := Dp.reads I (.tuple ds) y u he ry
  exact SeqAt.notIn_tuple_reads r2 r1 (by have := SeqAt.canLay_of_shaped se; rw [PyData.canLay0] at this; exact this) (SeqAt.canLay_of_shaped sd) (room_in_shapedT sd hu) ⟨.bl _, H, I, rfl, q⟩
/-- x in c: one sign in a text, a value in a list or a tuple -/
def inD : D → D → Option Bool
  | .str x, .str y => match x.cps.toList with
    | [c] => some (decide (c ∈ y.cps.toList))
    | _ => some (!(Builtin.Str.occurrences y x 0 y.length 1).isEmpty)
  | d, .list ds => if flatD d = true ∧ ds.all flatD = true then some (ds.any fun z => PyData.eqv z d) else if SeqAt.shaped d = true ∧ SeqAt.shaped (.list ds) = true then some (ds.any fun z => PyData.eqv z d) else none
  | d, .tuple ds => if flatD d = true ∧ ds.all flatD = true then some (ds.any fun z => PyData.eqv z d) else if SeqAt.shaped d = true ∧ SeqAt.shaped (.tuple ds) = true then some (ds.any fun z => PyData.eqv z d) else none
  | _, _ => none
theorem in_rule {op : CmpOp} {n : Bool → Bool} {neg : Bool} (hn : ∀ b, (if neg then !b else b) = n b)
    (h1 : ∀ X, OpR X (compareOp op) (fun x y H Q => ∃ (c : Nat) (z : Str), x = .str ⟨#[c]⟩ ∧ y = .str z ∧ Q (.bl (n (decide (c ∈ z.cps.toList)))) H))
    (h2 : ∀ X, OpR X (compareOp op) (fun x y H Q => ∃ i j, x = .str i ∧ y = .str j ∧ Q (.bl (n (!(Builtin.Str.occurrences j i 0 j.length 1).isEmpty))) H))
    (h3 : ∀ X : Cx, OpR X (compareOp op) (rIn X.K neg))
    (h4 : ∀ X : Cx, X.A.units + 65 < cLine → OpR X (compareOp op) (fun x y H Q => ∃ d ds, Dp X.K H x d ∧ Dp X.K H y (.list ds) ∧ SeqAt.shaped d = true ∧ SeqAt.shaped (.list ds) = true ∧ Q (.bl (n (ds.any fun z => PyData.eqv z d))) H))
    (h5 : ∀ X : Cx, X.A.units + 65 < cLine → OpR X (compareOp op) (rInT X.K n))
    {d e : D} {b : Bool} (h : inD d e = some b) : ∃ r : R2, (∀ X, Fits S X → OpR X (compareOp op) r) ∧ VOk S.K (l2 r) [d, e] (.bool (n b)) := by
  unfold inD at h
  split at h
  · rename_i x y
    split at h
    · rename_i c hc
      cases h
      refine ⟨_, fun X _ => h1 X, fun H vs F Q r k => ?_⟩
      obtain ⟨v, w, _, _, rfl, r1, r2⟩ := r.i2
      have e : x = ⟨#[c]⟩ := by
        obtain ⟨⟨l⟩⟩ := x
        simp only at hc
        rw [hc]
      subst e
      exact ⟨c, y, r1.iStr, r2.iStr, k _ H [] (.same (.bl _))⟩
    · cases h
      refine ⟨_, fun X _ => h2 X, fun H vs F Q r k => ?_⟩
      obtain ⟨v, w, _, _, rfl, r1, r2⟩ := r.i2
      exact ⟨x, y, r1.iStr, r2.iStr, k _ H [] (.same (.bl _))⟩
  · rename_i ds _
    split at h
    · rename_i hf
      cases h
      refine ⟨rIn S.K neg, fun X hX => (by rw [← hX.K]; exact h3 X), fun H vs F Q r k => ?_⟩
      obtain ⟨v, w, _, _, rfl, r1, r2⟩ := r.i2
      obtain ⟨p, ws, G, rfl, hp, s, _⟩ := r2.iLst
      refine ⟨p, ws, rfl, .inl (sqL_of hp), flat_V r1 hf.1, flats_V s hf.2, ?_⟩
      rw [inV_D r1 hf.1 s hf.2, hn]
      exact k _ H [] (.same (.bl _))
    · split at h
      · rename_i hs
        cases h
        refine ⟨fun x y H Q => ∃ d ds, Dp S.K H x d ∧ Dp S.K H y (.list ds) ∧ SeqAt.shaped d = true ∧ SeqAt.shaped (.list ds) = true ∧ Q (.bl (n (ds.any fun z => PyData.eqv z d))) H, fun X hX => (by rw [← hX.K]; exact h4 X hX.u65), fun H vs F Q r k => ?_⟩
        obtain ⟨v, w, _, _, rfl, r1, r2⟩ := r.i2
        exact ⟨_, _, r1.dp (shaped_lay hs.1), r2.dp (shaped_lay hs.2), hs.1, hs.2, k _ H [] (.same (.bl _))⟩
      · cases h
  · rename_i ds _
    split at h
    · rename_i hf
      cases h
      refine ⟨rIn S.K neg, fun X hX => (by rw [← hX.K]; exact h3 X), fun H vs F Q r k => ?_⟩
      obtain ⟨v, w, _, _, rfl, r1, r2⟩ := r.i2
      obtain ⟨p, ws, rfl, hp, s⟩ := r2.iTup
      refine ⟨p, ws, rfl, .inr hp, flat_V r1 hf.1, flats_V s hf.2, ?_⟩
      rw [inV_D r1 hf.1 s hf.2, hn]
      exact k _ H [] (.same (.bl _))
    · split at h
      · rename_i hs
        cases h
        refine ⟨rInT S.K n, fun X hX => (by rw [← hX.K]; exact h5 X hX.u65), fun H vs F Q r k => ?_⟩
        obtain ⟨v, w, _, _, rfl, r1, r2⟩ := r.i2
        exact ⟨_, _, r1.dp (shaped_lay hs.1), r2.dp (shaped_lay hs.2), hs.1, hs.2, k _ H [] (.same (.bl _))⟩
      · cases h
  · cases h
@[simp] def gIn : List D → Option D
  | [d, e] => (inD d e).map .bool
  | _ => none
@[simp] def gNin : List D → Option D
  | [d, e] => (inD d e).map fun b => .bool (!b)
  | _ => none
section
variable {a b : Expr} {pos : Pos} {κs : List Kd} {M : List Nat} {f : EM (List D)}
theorem co_in : CmpOk S .In gIn := ⟨⟨_, fun _ _ => op_in_str⟩, fun ds dz h => by
  unfold gIn at h
  split at h
  · rename_i d e
    cases q : inD d e with
    | none => rw [q] at h; cases h
    | some x =>
      rw [q] at h
      cases h
      obtain ⟨r, h1, h2⟩ := in_rule (S := S) (n := id) (neg := false) (fun _ => rfl) (fun _ => op_in_sign) (fun _ => op_in_str) (fun _ => op_in_seq) (fun _ hu => op_inD hu) (fun _ hu => op_inT hu) q
      exact ⟨_, h1, h2⟩
  · cases h⟩
theorem co_nin : CmpOk S .NotIn gNin := ⟨⟨_, fun _ _ => op_notIn_str⟩, fun ds dz h => by
  unfold gNin at h
  split at h
  · rename_i d e
    cases q : inD d e with
    | none => rw [q] at h; cases h
    | some x =>
      rw [q] at h
      cases h
      obtain ⟨r, h1, h2⟩ := in_rule (S := S) (n := not) (neg := true) (fun _ => rfl) (fun _ => op_notIn_sign) (fun _ => op_notIn_str) (fun _ => op_notIn_seq) (fun _ hu => op_notInD hu) (fun _ hu => op_notInT hu) q
      exact ⟨_, h1, h2⟩
  · cases h⟩
end
end DL
/-! DL5: subscripts, slices, built-ins, tests. -/
namespace DL
open PySem PySem.Spec PyProof.Rows L2
variable {S : Sig}
/-! ### subscripts -/
@[simp] def ixD : D → D → Option D
  | .list ds, .int i => atI ds i
  | .tuple ds, .int i => atI ds i
  | .str z, .int i => if z.length ≤ 1000000 then (atI z.cps.toList i).map fun c => .str ⟨#[c]⟩ else none
  | _, _ => none
@[simp] def gIx : List D → Option D
  | [d, e] => match ixD d e with
    | some x => if imm x = true then some x else none
    | none => none
  | _ => none
theorem ixN_len {n m : Nat} {i : Int} (h : n = m) : ixN n i = ixN m i := by rw [h]
theorem atI_rep {K : PySem.W.Frag} {H : Hp} {vs : List V} {ds : List D} {F : List Addr} {i : Int} {d : D} (r : Reps K H vs ds F) (h : atI ds i = some d) : ∃ v G, atI vs i = some v ∧ Rep K H v d G ∧ ∀ a ∈ G, a ∈ F := by
  unfold atI at h ⊢
  rw [r.length]
  cases e : ixN ds.length i with
  | none => rw [e] at h; cases h
  | some j =>
    rw [e] at h
    exact r.get h
theorem lst_read {K : PySem.W.Frag} {H : Hp} {v : V} {ds : List D} {F : List Addr} (r : Rep K H v (.list ds) F) : ∃ a vs G, v = .ref a ∧ SqL K H a vs ∧ Reps K H vs ds G := by
  obtain ⟨a, vs, G, h1, h2, h3, _⟩ := r.iLst
  exact ⟨a, vs, G, h1, sqL_of h2, h3⟩
section
variable {a b : Expr} {pos : Pos} {κs : List Kd} {M : List Nat} {f : EM (List D)}
theorem de_ix (hA : DA S [a, b] κs M f) (hs : PlainIx b) : DE S (.Subscript a b pos) .own M (cV f gIx) := de_v hA ⟨_, f_ix (fun X hX => (ix_str : IxR X rIxS)) hs⟩ fun ds dz h => by
  unfold gIx at h
  split at h
  · rename_i d e
    cases q : ixD d e with
    | none => rw [q] at h; cases h
    | some x =>
      rw [q] at h
      simp only at h
      split at h
      · rename_i hi
        cases h
        unfold ixD at q
        split at q
        · refine ⟨_, f_ix (r := rIxL S.K) (fun X hX => by rw [← hX.K]; exact ix_list) hs, fun H vs F Q r k => ?_⟩
          obtain ⟨v, w, _, _, rfl, r1, r2⟩ := r.i2
          obtain ⟨p, vs, G, rfl, hp, s⟩ := lst_read r1
          obtain ⟨z, G', hz, rz, _⟩ := atI_rep s q
          exact ⟨p, vs, _, z, rfl, r2.iInt, hp, hz, k _ H [] (.same (rz.imm' hi))⟩
        · refine ⟨_, f_ix (r := rIxT S.K) (fun X hX => by rw [← hX.K]; exact ix_tup) hs, fun H vs F Q r k => ?_⟩
          obtain ⟨v, w, _, _, rfl, r1, r2⟩ := r.i2
          obtain ⟨p, vs, rfl, hp, s⟩ := r1.iTup
          obtain ⟨z, G', hz, rz, _⟩ := atI_rep s q
          exact ⟨p, vs, _, z, rfl, r2.iInt, hp, hz, k _ H [] (.same (rz.imm' hi))⟩
        · rename_i z i
          split at q
          · rename_i hl
            refine ⟨_, f_ix (fun X hX => ix_str) hs, fun H vs F Q r k => ?_⟩
            obtain ⟨v, w, _, _, rfl, r1, r2⟩ := r.i2
            cases e : atI z.cps.toList i with
            | none => rw [e] at q; cases q
            | some c =>
              rw [e] at q
              cases q
              exact ⟨z, i, c, r1.iStr, r2.iInt, lim_line hl, e, k _ H [] (.same (.str _))⟩
          · cases q
        · cases q
      · cases h
  · cases h
/-- where a thing stands within a slot's -/
def within : Kd → List Nat
  | .sl i => [i]
  | .bor B => B
  | .own => []
theorem Opn.within {K : PySem.W.Frag} {H : Hp} {σ : L2.St} {δ : DEnv} {Fs : FT} {F : List Addr} {κ : Kd} {v : V} {d : D} (E : EnvR K H σ δ Fs) (h : Opn K H σ δ Fs F κ v d) (hn : κ ≠ .own) : F = [] ∧ ∃ G, Rep K H v d G ∧ ∀ a ∈ G, InM (DL.within κ) Fs a := by
  cases κ with
  | own => exact absurd rfl hn
  | bor B => exact h
  | sl i =>
    obtain ⟨h0, h1, h2⟩ := h
    obtain ⟨w, e, r⟩ := E.at i d h2
    rw [h1] at e
    cases e
    exact ⟨h0, Fs i, r, fun a m => ⟨i, List.mem_cons_self, m⟩⟩
theorem op2 {K : PySem.W.Frag} {H : Hp} {σ : L2.St} {δ : DEnv} {Fs : FT} {κ1 κ2 : Kd} {vs : List V} {ds : List D} {Gs : List (List Addr)} (h : OpnL K H σ δ Fs [κ1, κ2] vs ds Gs) : ∃ v w d e F G, vs = [v, w] ∧ ds = [d, e] ∧ Gs = [F, G] ∧ Opn K H σ δ Fs F κ1 v d ∧ Opn K H σ δ Fs G κ2 w e := by
  cases h with
  | cons h1 t =>
    cases t with
    | cons h2 t =>
      cases t
      exact ⟨_, _, _, _, _, _, rfl, rfl, rfl, h1, h2⟩
/-- a[b], an object within a slot's list or tuple, to be read -/
@[simp] def gIxB : List D → Option D
  | [.list ds, .int i] => atI ds i
  | [.tuple ds, .int i] => atI ds i
  | _ => none
theorem de_ixB {κ1 κ2 : Kd} (hA : DA S [a, b] [κ1, κ2] M f) (hs : PlainIx b) (h1 : κ1 ≠ .own) : DE S (.Subscript a b pos) (.bor (within κ1)) M (cV f gIxB) := fun σ H δ Fs Q r E s hf k => by
  have post0 : ∀ {H1 : Hp} {δ1 : DEnv} {Fs1 : FT} {Fr : List Addr}, Post S.K M H δ Fs σ H1 δ1 Fs1 Fr → Post S.K M H δ Fs σ H1 δ1 Fs1 [] := fun p => ⟨p.env, p.sep0, fun _ m => (nomatch m), p.sub, fun _ m => (nomatch m), p.keep, p.same⟩
  rcases bind_some hf with ⟨ds, δ1, h2, h3⟩ | ⟨x, h2, rfl⟩
  · cases q : gIxB ds with
    | none => rw [q] at h3; cases h3
    | some x =>
      rw [q] at h3
      cases h3
      unfold gIxB at q
      split at q
      · refine ⟨_, f_ix (r := rIxL S.K) (fun X hX => by rw [← hX.K]; exact ix_list) hs, hA σ H δ Fs _ _ E s h2 fun vs H1 Fs1 Frs p o => ?_⟩
        obtain ⟨v, w, d, e, F1, F2, rfl, hd, rfl, o1, o2⟩ := op2 o
        cases hd
        obtain ⟨h0, G, r1, hw⟩ := o1.within p.env h1
        obtain ⟨G2, r2⟩ := o2.rep p.env
        obtain ⟨pa, vs, G', rfl, hp, s', rfl⟩ := r1.iLst
        obtain ⟨z, G3, hz, rz, hsub⟩ := atI_rep s' q
        exact ⟨pa, vs, _, z, rfl, r2.iInt, sqL_of hp, hz, k _ H1 Fs1 [] (post0 p) ⟨rfl, G3, rz, fun a m => hw a (List.mem_cons_of_mem _ (hsub a m))⟩⟩
      · refine ⟨_, f_ix (r := rIxT S.K) (fun X hX => by rw [← hX.K]; exact ix_tup) hs, hA σ H δ Fs _ _ E s h2 fun vs H1 Fs1 Frs p o => ?_⟩
        obtain ⟨v, w, d, e, F1, F2, rfl, hd, rfl, o1, o2⟩ := op2 o
        cases hd
        obtain ⟨h0, G, r1, hw⟩ := o1.within p.env h1
        obtain ⟨G2, r2⟩ := o2.rep p.env
        obtain ⟨pa, vs, rfl, hp, s'⟩ := r1.iTup
        obtain ⟨z, G3, hz, rz, hsub⟩ := atI_rep s' q
        exact ⟨pa, vs, _, z, rfl, r2.iInt, hp, hz, k _ H1 Fs1 [] (post0 p) ⟨rfl, G3, rz, fun a m => hw a (hsub a m)⟩⟩
      · cases q
  · exact ⟨_, f_ix (r := rIxL S.K) (fun X hX => by rw [← hX.K]; exact ix_list) hs, hA σ H δ Fs _ _ E s h2 k⟩
/-! ### len -/
theorem c_len {X : Cx} (h : Fits S X) : CallR X (.builtin "len") (fun xs H Q => ∃ x n, xs = [x] ∧ LenV S.K x H n ∧ Q (.int n) H) := by
  have e := call_len (X := X)
  rw [h.K] at e
  exact e
@[simp] def lenD : D → Option Nat
  | .str z => if z.length ≤ 1000000 then some z.length else none
  | .list ds => some ds.length
  | .tuple ds => some ds.length
  | _ => none
@[simp] def gLen : List D → Option D
  | [d] => (lenD d).map fun n => .int n
  | _ => none
theorem len_V {K : PySem.W.Frag} {H : Hp} {v : V} {d : D} {F : List Addr} {n : Nat} (r : Rep K H v d F) (h : lenD d = some n) : LenV K v H n := by
  unfold lenD at h
  split at h
  · split at h
    · rename_i hl
      cases h
      rw [r.iStr]
      exact ⟨lim_line hl, rfl⟩
    · cases h
  · cases h
    obtain ⟨a, vs, G, rfl, hp, s⟩ := lst_read r
    exact .inl ⟨vs, hp, s.length.symm⟩
  · cases h
    obtain ⟨a, vs, rfl, hp, s⟩ := r.iTup
    exact .inr ⟨vs, hp, s.length.symm⟩
  · cases h
theorem de_len {p : Pos} (n : BtS S "len") (hA : DA S [a] κs M f) (hp : Plain [a]) : DE S (.Call (.Name "len" p) [a] [] pos) .own M (cV f gLen) :=
  de_v hA ⟨_, f_callB n (fun _ h => c_len h) PySem.boot_len hp⟩ fun ds dz h => by
    unfold gLen at h
    split at h
    · rename_i d
      cases q : lenD d with
      | none => rw [q] at h; cases h
      | some m =>
        rw [q] at h
        cases h
        refine ⟨_, f_callB n (fun _ h => c_len h) PySem.boot_len hp, fun H vs F Q r k => ?_⟩
        obtain ⟨v, _, rfl, r1⟩ := r.i1
        exact ⟨v, m, rfl, len_V r1 q, k _ H [] (.same (.int _))⟩
    · cases h
/-! ### abs, max, min, int, list, tuple -/
@[simp] def gAbs : List D → Option D
  | [.int i] => some (.int (if i < 0 then -i else i))
  | _ => none
theorem de_abs {p : Pos} (n : BtS S "abs") (hA : DA S [a] κs M f) (hp : Plain [a]) : DE S (.Call (.Name "abs" p) [a] [] pos) .own M (cV f gAbs) :=
  de_v hA ⟨_, f_callB n (fun _ _ => call_abs) (by decide +kernel) hp⟩ fun ds dz h => by
    unfold gAbs at h
    split at h
    · cases h
      refine ⟨_, f_callB n (fun _ _ => call_abs) (by decide +kernel) hp, fun H vs F Q r k => ?_⟩
      obtain ⟨v, _, rfl, r1⟩ := r.i1
      exact ⟨_, by rw [r1.iInt], k _ H [] (.same (.int _))⟩
    · cases h
@[simp] def gMax2 : List D → Option D
  | [.int i, .int j] => some (.int (if j > i then j else i))
  | _ => none
@[simp] def gMin2 : List D → Option D
  | [.int i, .int j] => some (.int (if j < i then j else i))
  | _ => none
theorem de_max2 {p : Pos} (n : BtS S "max") (hA : DA S [a, b] κs M f) (hp : Plain [a, b]) : DE S (.Call (.Name "max" p) [a, b] [] pos) .own M (cV f gMax2) :=
  de_v hA ⟨_, f_callB n (fun _ h => call_max2 h.calm) (by decide +kernel) hp⟩ fun ds dz h => by
    unfold gMax2 at h
    split at h
    · cases h
      refine ⟨_, f_callB n (fun _ h => call_max2 h.calm) (by decide +kernel) hp, fun H vs F Q r k => ?_⟩
      obtain ⟨v, w, _, _, rfl, r1, r2⟩ := r.i2
      exact ⟨_, _, by rw [r1.iInt, r2.iInt], k _ H [] (.same (.int _))⟩
    · cases h
theorem de_min2 {p : Pos} (n : BtS S "min") (hA : DA S [a, b] κs M f) (hp : Plain [a, b]) : DE S (.Call (.Name "min" p) [a, b] [] pos) .own M (cV f gMin2) :=
  de_v hA ⟨_, f_callB n (fun _ h => call_min2 h.calm) (by decide +kernel) hp⟩ fun ds dz h => by
    unfold gMin2 at h
    split at h
    · cases h
      refine ⟨_, f_callB n (fun _ h => call_min2 h.calm) (by decide +kernel) hp, fun H vs F Q r k => ?_⟩
      obtain ⟨v, w, _, _, rfl, r1, r2⟩ := r.i2
      exact ⟨_, _, by rw [r1.iInt, r2.iInt], k _ H [] (.same (.int _))⟩
    · cases h
@[simp] def gInt : List D → Option D
  | [.int i] => some (.int i)
  | [.bool b] => some (.int (if b then 1 else 0))
  | _ => none
theorem de_intC {p : Pos} (n : BtS S "int") (hA : DA S [a] κs M f) (hp : Plain [a]) : DE S (.Call (.Name "int" p) [a] [] pos) .own M (cV f gInt) :=
  de_v hA ⟨_, f_callTy n (fun _ _ => call_int1) (by decide +kernel) hp⟩ fun ds dz h => by
    unfold gInt at h
    split at h
    · cases h
      refine ⟨_, f_callTy n (fun _ _ => call_int1) (by decide +kernel) hp, fun H vs F Q r k => ?_⟩
      obtain ⟨v, _, rfl, r1⟩ := r.i1
      exact .inl ⟨_, by rw [r1.iInt], k _ H [] (.same (.int _))⟩
    · cases h
      refine ⟨_, f_callTy n (fun _ _ => call_int1) (by decide +kernel) hp, fun H vs F Q r k => ?_⟩
      obtain ⟨v, _, rfl, r1⟩ := r.i1
      exact .inr ⟨_, by rw [r1.iBl], k _ H [] (.same (.int _))⟩
    · cases h
/-- list(x), tuple(x) of a list or a tuple of things that don't change -/
@[simp] def gList : List D → Option D
  | [.list ds] => if imms ds = true then some (.list ds) else none
  | [.tuple ds] => if imms ds = true then some (.list ds) else none
  | _ => none
@[simp] def gTuple : List D → Option D
  | [.list ds] => if imms ds = true then some (.tuple ds) else none
  | [.tuple ds] => if imms ds = true then some (.tuple ds) else none
  | _ => none
theorem de_listC {p : Pos} (n : BtS S "list") (hA : DA S [a] κs M f) (hp : Plain [a]) : DE S (.Call (.Name "list" p) [a] [] pos) .own M (cV f gList) := by
  have g : ∀ X, Fits S X → PE X (.Call (.Name "list" p) [a] [] pos) (fun σ H Q => tBA S [a] σ H fun vs H1 => (fun xs H Q => ∃ p ys, xs = [V.ref p] ∧ (SqL S.K H p ys ∨ SqT S.K H p ys) ∧ ∀ l, H l = none → Q (.ref l) (upd H l (.lst ys))) vs H1 Q) :=
    f_callTy n (fun X h => by have e := call_list_of (X := X); rw [h.K] at e; exact e) (by decide +kernel) hp
  refine de_v hA ⟨_, g⟩ fun ds dz h => ?_
  unfold gList at h
  split at h
  · split at h
    · rename_i hi
      cases h
      refine ⟨_, g, fun H vs F Q r k => ?_⟩
      obtain ⟨v, _, rfl, r1⟩ := r.i1
      obtain ⟨q, ws, G, rfl, hq, s⟩ := lst_read r1
      exact ⟨q, ws, rfl, .inl hq, fun l hl => k _ _ _ (NewV.lst hl (s.imm' hi))⟩
    · cases h
  · split at h
    · rename_i hi
      cases h
      refine ⟨_, g, fun H vs F Q r k => ?_⟩
      obtain ⟨v, _, rfl, r1⟩ := r.i1
      obtain ⟨q, ws, rfl, hq, s⟩ := r1.iTup
      exact ⟨q, ws, rfl, .inr hq, fun l hl => k _ _ _ (NewV.lst hl (s.imm' hi))⟩
    · cases h
  · cases h
theorem de_tupleC {p : Pos} (n : BtS S "tuple") (hA : DA S [a] κs M f) (hp : Plain [a]) : DE S (.Call (.Name "tuple" p) [a] [] pos) .own M (cV f gTuple) := by
  have g : ∀ X, Fits S X → PE X (.Call (.Name "tuple" p) [a] [] pos) (fun σ H Q => tBA S [a] σ H fun vs H1 => (fun xs H Q => ∃ p ys, xs = [V.ref p] ∧ ((SqL S.K H p ys ∧ ∀ l, H l = none → Q (.ref l) (upd H l (.tup ys))) ∨ (SqT S.K H p ys ∧ Q (.ref p) H))) vs H1 Q) :=
    f_callTy n (fun X h => by have e := call_tuple_of (X := X); rw [h.K] at e; exact e) (by decide +kernel) hp
  refine de_v hA ⟨_, g⟩ fun ds dz h => ?_
  unfold gTuple at h
  split at h
  · split at h
    · rename_i hi
      cases h
      refine ⟨_, g, fun H vs F Q r k => ?_⟩
      obtain ⟨v, _, rfl, r1⟩ := r.i1
      obtain ⟨q, ws, G, rfl, hq, s⟩ := lst_read r1
      exact ⟨q, ws, rfl, .inl ⟨hq, fun l hl => k _ _ _ (NewV.tup hl (s.imm' hi))⟩⟩
    · cases h
  · split at h
    · rename_i hi
      cases h
      refine ⟨_, g, fun H vs F Q r k => ?_⟩
      obtain ⟨v, _, rfl, r1⟩ := r.i1
      have r2 := r1.imm' (by rw [imm_tup]; exact hi)
      obtain ⟨q, ws, rfl, hq, s⟩ := r2.iTup
      exact ⟨q, ws, rfl, .inr ⟨hq, k _ _ _ (.same r2)⟩⟩
    · cases h
  · cases h
/-! ### isinstance(x, T), T a built-in class -/
@[simp] def tyD : D → String
  | .none => "NoneType"
  | .bool _ => "bool"
  | .int _ => "int"
  | .str _ => "str"
  | .list _ => "list"
  | .tuple _ => "tuple"
  | .dict _ => "dict"
theorem ty_V {K : PySem.W.Frag} {H : Hp} {v : V} {d : D} {F : List Addr} (r : Rep K H v d F) : TyX K H v (.type (tyD d)) := by
  cases r with
  | non => exact .base .non
  | bl b => exact .base (.bl b)
  | int i => exact .base (.int i)
  | str x => exact .base (.str x)
  | lst h _ => exact .base (.lst h)
  | dK h _ _ => exact .base (.dK h)
  | dT h _ _ => exact .base (.dT h)
  | tup h _ =>
    rcases h with (h | ⟨o, h⟩) | ⟨o, its, n, h, c, _⟩
    · exact .base (.tup h)
    · exact .fTuple h
    · exact .kTuple h c
@[simp] def gIsi (T : String) : List D → Option D
  | [d] => (kitB (tyD d) T).map .bool
  | _ => none
theorem de_isi {p p' : Pos} {x : Str} {T : String} (n : BtS S "isinstance") (n2 : BtS S x) (hv : bootBuiltins x = some (.type T)) (hA : DA S [a] κs M f) (hp : Plain [a, .Name x p']) (hn : x ≠ "__name__" := by decide) (hdb : (x == ("__debug__" : Str)) = false := by decide) :
    DE S (.Call (.Name "isinstance" p) [a, .Name x p'] [] pos) .own M (cV f (gIsi T)) := by
  have g : ∀ X, Fits S X → PE X (.Call (.Name "isinstance" p) [a, .Name x p'] [] pos) (fun σ H Q => tBA S [a] σ H fun vs H1 => l1 (fun v H Q => rIsi S.K [v, .ty T] H Q) vs H1 Q) := fun X hX =>
    pe_callB (r := rIsi S.K) (by have e := call_isi (X := X); rw [hX.K] at e; exact e) (n.g hX) (n.m hX) (by decide +kernel) (pa_cons (pe_tB hX) (pa_cons (pe_bltn (v := .ty T) (n2.g hX) (n2.m hX) hv rfl hn hdb) pa_nil (hp.2.1 _)) (hp.1 _)) (by decide) (by decide) (hp.1 _) (plain_any hp.2)
  refine de_v hA ⟨_, g⟩ fun ds dz h => ?_
  unfold gIsi at h
  split at h
  · rename_i d
    cases q : kitB (tyD d) T with
    | none => rw [q] at h; cases h
    | some b =>
      rw [q] at h
      cases h
      refine ⟨_, g, fun H vs F Q r k => ?_⟩
      obtain ⟨v, _, rfl, r1⟩ := r.i1
      exact ⟨v, .ty T, _, _, b, rfl, .ty T, ty_V r1, kit_ty q, k _ H [] (.same (.bl _))⟩
  · cases h
end
end DL
/-! DL6: tests, and / or / not, conditional expressions, slices, methods of texts. -/
namespace DL
open PySem PySem.Spec PyProof.Rows L2
variable {S : Sig}
section
variable {a b c : Expr} {pos : Pos} {κ : Kd} {κs : List Kd} {M M1 M2 : List Nat} {f : EM (List D)}
theorem de_cmp {op : CmpOp} {g : List D → Option D} (h : CmpOk S op g) (hA : DA S [a, b] κs M f) (hm : behindInMarks op b = false) : DE S (.Compare a [op] [b] pos) .own M (cV f g) :=
  de_v hA (let ⟨_, h0⟩ := h.some_; ⟨_, f_cmp h0 hm⟩) fun ds dz e => let ⟨_, h1, h2⟩ := h.all_ ds dz e; ⟨_, f_cmp h1 hm, h2⟩
@[simp] def cBl (f : EM D) : EM Bool := EM.bind f fun d δ => match d with
  | .bool b => some (.ok b δ)
  | _ => none
theorem dt_cmp {op : CmpOp} {g : List D → Option D} (h : CmpOk S op g) (hA : DA S [a, b] κs M f) (hm : behindInMarks op b = false) : DT S (.Compare a [op] [b] pos) M (cBl (cV f g)) := fun σ H δ Fs Q r E s hf k => by
  obtain ⟨r0, h0⟩ := h.some_
  have ft : ∀ {r : R2}, (∀ X, Fits S X → OpR X (compareOp op) r) → ∀ X, Fits S X → PT X (.Compare a [op] [b] pos) (fun σ H Q => tBA S [a, b] σ H fun vs H1 => l2 r vs H1 fun x H' => ∃ k, x = .bl k ∧ Q k H') := fun h X hX => pt_cmpR (h X hX) (pe_tB hX) (pe_tB hX) hm
  rcases bind_some hf with ⟨d, δ1, h1, h2⟩ | ⟨x, h1, rfl⟩
  · cases d with
    | bool v =>
      cases h2
      rcases bind_some h1 with ⟨ds, δ2, h3, h4⟩ | ⟨x, h3, h4⟩
      · cases e2 : g ds with
        | none => rw [e2] at h4; cases h4
        | some dz =>
          rw [e2] at h4
          cases h4
          obtain ⟨r, hr, ok⟩ := h.all_ ds _ e2
          refine ⟨_, ft hr, hA σ H δ Fs _ _ E s h3 fun vs H1 Fs1 Frs p o => ?_⟩
          obtain ⟨F, rs⟩ := o.reps p.env
          refine ok H1 vs F _ rs fun z H2 Fz n => ?_
          have e := n.rep.iBl
          subst e
          have p2 := p.newv n
          have e0 : Fz = [] := by have := n.rep; cases this; rfl
          subst e0
          exact ⟨v, rfl, k H2 Fs1 p2⟩
      · cases h4
    | _ => cases h2
  · rcases bind_some h1 with ⟨ds, δ2, h3, h4⟩ | ⟨x', h3, h4⟩
    · cases e2 : g ds with
      | none => rw [e2] at h4; cases h4
      | some dz => rw [e2] at h4; cases h4
    · cases h4
      exact ⟨_, ft h0, hA σ H δ Fs _ _ E s h3 k⟩
/-- truth -/
@[simp] def trD : D → Option Bool
  | .none => some false
  | .bool b => some b
  | .int i => some (i != 0)
  | .str z => if z.length ≤ 1000000 then some ((z.length : Int) != 0) else none
  | .list ds => some (!ds.isEmpty)
  | .tuple ds => some (!ds.isEmpty)
  | .dict _ => none
theorem isEmpty_r {K : PySem.W.Frag} {H : Hp} {vs : List V} {ds : List D} {F : List Addr} (r : Reps K H vs ds F) : ds.isEmpty = vs.isEmpty := by
  cases r <;> rfl
theorem tr_V {K : PySem.W.Frag} {H : Hp} {v : V} {d : D} {F : List Addr} {b : Bool} (r : Rep K H v d F) (h : trD d = some b) : TruV K v H b := by
  unfold trD at h
  split at h
  · cases h; rw [r.iNon]; exact rfl
  · cases h; rw [r.iBl]; exact rfl
  · cases h; rw [r.iInt]; exact rfl
  · split at h
    · rename_i hl
      cases h; rw [r.iStr]; exact ⟨lim_line hl, rfl⟩
    · cases h
  · cases h
    obtain ⟨p, vs, G, rfl, hp, s⟩ := lst_read r
    exact .inl ⟨vs, hp, by rw [isEmpty_r s]⟩
  · cases h
    obtain ⟨p, vs, rfl, hp, s⟩ := r.iTup
    exact .inr (.inl ⟨vs, hp, by rw [isEmpty_r s]⟩)
  · cases h
@[simp] def cTr (f : EM D) : EM Bool := EM.bind f fun d δ => match trD d with
  | some b => some (.ok b δ)
  | none => none
theorem Post.dropR {K : PySem.W.Frag} {M : List Nat} {H H' : Hp} {δ δ' : DEnv} {Fs Fs' : FT} {σ' : L2.St} {Fr : List Addr} (p : Post K M H δ Fs σ' H' δ' Fs' Fr) : Post K M H δ Fs σ' H' δ' Fs' [] := ⟨p.env, p.sep0, fun _ m => (nomatch m), p.sub, fun _ m => (nomatch m), p.keep, p.same⟩
theorem dt_tr {e : Expr} {f : EM D} (h : DE S e κ M f) (he : ∀ env whole, isTrue e env whole = (do let v ← whole; standAt e.pos; holding [v] (truthy v))) : DT S e M (cTr f) := fun σ H δ Fs Q r E s hf k => by
  rcases bind_some hf with ⟨d, δ1, h1, h2⟩ | ⟨x, h1, rfl⟩
  · cases e2 : trD d with
    | none => rw [e2] at h2; cases h2
    | some b =>
      rw [e2] at h2
      cases h2
      obtain ⟨t, ht, q⟩ := h σ H δ Fs (fun x H' => ∃ k, TruV S.K x H' k ∧ Q k H') _ E s h1 fun v H1 Fs1 F p o => by
        obtain ⟨G, r⟩ := o.rep p.env
        exact ⟨b, tr_V r e2, k H1 Fs1 p.dropR⟩
      exact ⟨_, fun X hX => (by have := pt_truth (ht X hX) (he _); rw [hX.K] at this; exact this), q⟩
  · obtain ⟨t, ht, q⟩ := h σ H δ Fs (fun x H' => ∃ k, TruV S.K x H' k ∧ Q k H') _ E s h1 k
    exact ⟨_, fun X hX => (by have := pt_truth (ht X hX) (he _); rw [hX.K] at this; exact this), q⟩
@[simp] def cNot (f : EM Bool) : EM Bool := EM.bind f fun b δ => some (.ok (!b) δ)
@[simp] def cAnd (f g : EM Bool) : EM Bool := EM.bind f fun b δ => if b = true then g δ else some (.ok false δ)
@[simp] def cOr (f g : EM Bool) : EM Bool := EM.bind f fun b δ => if b = true then some (.ok true δ) else g δ
theorem dt_not {f : EM Bool} (h : DT S a M f) : DT S (.UnaryOp .Not a pos) M (cNot f) := fun σ H δ Fs Q r E s hf k => by
  rcases bind_some hf with ⟨d, δ1, h1, h2⟩ | ⟨x, h1, rfl⟩
  · cases h2
    obtain ⟨t, ht, q⟩ := h σ H δ Fs (fun c H1 => Q (!c) H1) _ E s h1 k
    exact ⟨_, fun X hX => pt_not (ht X hX), q⟩
  · obtain ⟨t, ht, q⟩ := h σ H δ Fs (fun c H1 => Q (!c) H1) _ E s h1 k
    exact ⟨_, fun X hX => pt_not (ht X hX), q⟩
/-- a chain of and, of or: its test, whatever stands around -/
def tBW (S : Sig) (e : Expr) : TT := fun σ H Q => ∃ t, (∀ X, Fits S X → PW X e t) ∧ t σ H Q
def DW (S : Sig) (e : Expr) (M : List Nat) (f : EM Bool) : Prop :=
  ∀ (σ : L2.St) (H : Hp) (δ : DEnv) (Fs : FT) (Q : Bool → Hp → Prop) (r : Out Bool), EnvR S.K H σ δ Fs → Sep Fs [] → f δ = some r →
    (match r with
      | .ok b δ' => ∀ H' Fs', Post S.K M H δ Fs σ H' δ' Fs' [] → Q b H'
      | .ex x => XOk S H Fs x) → tBW S e σ H Q
theorem pw_tB {X : Cx} {e : Expr} (h : Fits S X) : PW X e (tBW S e) := ⟨fun whole pins s σ H Q I ⟨t, ht, q⟩ => (ht X h).run whole pins s σ H Q I q⟩
theorem dt_w {e : Expr} {f : EM Bool} (h : DW S e M f) : DT S e M f := fun σ H δ Fs Q r E s hf k => let ⟨t, ht, q⟩ := h σ H δ Fs Q r E s hf k; ⟨t, fun X hX => (ht X hX).pt, q⟩
theorem dw_and1 {f : EM Bool} (h : DT S a M f) : DW S (.BoolOp .And [a] pos) M f := fun σ H δ Fs Q r E s hf k => let ⟨t, ht, q⟩ := h σ H δ Fs Q r E s hf k; ⟨t, fun X hX => pw_and1 (ht X hX), q⟩
theorem dw_or1 {f : EM Bool} (h : DT S a M f) : DW S (.BoolOp .Or [a] pos) M f := fun σ H δ Fs Q r E s hf k => let ⟨t, ht, q⟩ := h σ H δ Fs Q r E s hf k; ⟨t, fun X hX => pw_or1 (ht X hX), q⟩
theorem dw_and {rest : List Expr} {f g : EM Bool} (h : DT S a M1 f) (hr : DW S (.BoolOp .And (b :: rest) pos) M2 g) : DW S (.BoolOp .And (a :: b :: rest) pos) (M1 ++ M2) (cAnd f g) := fun σ H δ Fs Q r E s hf k => by
  refine ⟨_, fun X hX => pw_and (pt_tB hX) (pw_tB hX), ?_⟩
  show tBT S a σ H fun c H1 => if c = true then tBW S (.BoolOp .And (b :: rest) pos) σ H1 Q else Q false H1
  rcases bind_some hf with ⟨d, δ1, h1, h2⟩ | ⟨x, h1, rfl⟩
  · refine h σ H δ Fs _ _ E s h1 fun H1 Fs1 p => ?_
    cases d with
    | true =>
      rw [if_pos rfl] at h2
      refine iteT (hr σ H1 δ1 Fs1 Q r p.env p.sep h2 ?_)
      cases r with
      | ok c δ2 => exact fun H2 Fs2 p2 => k H2 Fs2 (p.comp p2)
      | ex x => exact XOk.post k p
    | false =>
      rw [if_neg Bool.false_ne_true] at h2
      cases h2
      exact iteF (k H1 Fs1 (p.mono fun i m => List.mem_append_left _ m))
  · exact h σ H δ Fs _ _ E s h1 k
theorem dw_or {rest : List Expr} {f g : EM Bool} (h : DT S a M1 f) (hr : DW S (.BoolOp .Or (b :: rest) pos) M2 g) : DW S (.BoolOp .Or (a :: b :: rest) pos) (M1 ++ M2) (cOr f g) := fun σ H δ Fs Q r E s hf k => by
  refine ⟨_, fun X hX => pw_or (pt_tB hX) (pw_tB hX), ?_⟩
  show tBT S a σ H fun c H1 => if c = true then Q true H1 else tBW S (.BoolOp .Or (b :: rest) pos) σ H1 Q
  rcases bind_some hf with ⟨d, δ1, h1, h2⟩ | ⟨x, h1, rfl⟩
  · refine h σ H δ Fs _ _ E s h1 fun H1 Fs1 p => ?_
    cases d with
    | true =>
      rw [if_pos rfl] at h2
      cases h2
      exact iteT (k H1 Fs1 (p.mono fun i m => List.mem_append_left _ m))
    | false =>
      rw [if_neg Bool.false_ne_true] at h2
      refine iteF (hr σ H1 δ1 Fs1 Q r p.env p.sep h2 ?_)
      cases r with
      | ok c δ2 => exact fun H2 Fs2 p2 => k H2 Fs2 (p.comp p2)
      | ex x => exact XOk.post k p
  · exact h σ H δ Fs _ _ E s h1 k
/-! as values -/
@[simp] def cOfB (f : EM Bool) : EM D := EM.bind f fun b δ => some (.ok (.bool b) δ)
theorem own_bl {K : PySem.W.Frag} {H : Hp} {σ : L2.St} {δ : DEnv} {Fs : FT} {v : V} {b : Bool} {F : List Addr} (E : EnvR K H σ δ Fs) (h : Opn K H σ δ Fs F κ v (.bool b)) : v = .bl b := by
  obtain ⟨G, r⟩ := h.rep E
  exact r.iBl
theorem de_not {f : EM D} (h : DE S a κ M f) : DE S (.UnaryOp .Not a pos) .own M (cOfB (cNot (cBl f))) := fun σ H δ Fs Q r E s hf k => by
  rcases bind_some hf with ⟨b, δ1, h1, h2⟩ | ⟨x, h1, rfl⟩
  · cases h2
    rcases bind_some h1 with ⟨b', δ2, h3, h4⟩ | ⟨x, _, h4⟩
    · cases h4
      rcases bind_some h3 with ⟨d, δ3, h5, h6⟩ | ⟨x, _, h6⟩
      · cases d with
        | bool v =>
          cases h6
          obtain ⟨t, ht, q⟩ := h σ H δ Fs (fun x H1 => ∃ c, x = .bl c ∧ Q (.bl (!c)) H1) _ E s h5 fun w H1 Fs1 F p o => ⟨_, own_bl p.env o, k _ H1 Fs1 [] p.dropR (Rep.bl _)⟩
          exact ⟨_, fun X hX => pe_not (ht X hX), q⟩
        | _ => cases h6
      · cases h6
    · cases h4
  · rcases bind_some h1 with ⟨b', δ2, h3, h4⟩ | ⟨x', h3, h4⟩
    · cases h4
    · cases h4
      rcases bind_some h3 with ⟨d, δ3, h5, h6⟩ | ⟨x'', h5, h6⟩
      · cases d <;> cases h6
      · cases h6
        obtain ⟨t, ht, q⟩ := h σ H δ Fs (fun x H1 => ∃ c, x = .bl c ∧ Q (.bl (!c)) H1) _ E s h5 k
        exact ⟨_, fun X hX => pe_not (ht X hX), q⟩
theorem de_b1 {op : BoolOp} {f : EM D} (h : DE S a κ M f) : DE S (.BoolOp op [a] pos) κ M f := fun σ H δ Fs Q r E s hf k => let ⟨t, ht, q⟩ := h σ H δ Fs Q r E s hf k; ⟨t, fun X hX => pe_one (ht X hX), q⟩
/-- a and b, a the True or False of f; b's own value else -/
@[simp] def cAndV (f : EM D) (g : EM D) : EM D := EM.bind f fun d δ => match d with
  | .bool true => g δ
  | .bool false => some (.ok (.bool false) δ)
  | _ => none
@[simp] def cOrV (f : EM D) (g : EM D) : EM D := EM.bind f fun d δ => match d with
  | .bool true => some (.ok (.bool true) δ)
  | .bool false => g δ
  | _ => none
theorem de_andV {rest : List Expr} {κ2 : Kd} {f g : EM D} (h : DE S a κ2 M1 f) (hr : DE S (.BoolOp .And (b :: rest) pos) .own M2 g) : DE S (.BoolOp .And (a :: b :: rest) pos) .own (M1 ++ M2) (cAndV f g) := fun σ H δ Fs Q r E s hf k => by
  refine ⟨_, fun X hX => pe_and (pe_tB hX) (pe_tB hX), ?_⟩
  show tB S a σ H fun x H1 => ∃ c, x = .bl c ∧ if c = true then tB S (.BoolOp .And (b :: rest) pos) σ H1 Q else Q (.bl false) H1
  rcases bind_some hf with ⟨d, δ1, h1, h2⟩ | ⟨x, h1, rfl⟩
  · refine h σ H δ Fs _ _ E s h1 fun v H1 Fs1 F p o => ?_
    cases d with
    | bool c =>
      refine ⟨c, own_bl p.env o, ?_⟩
      cases c with
      | true =>
        refine iteT (hr σ H1 δ1 Fs1 Q r p.env p.sep0 h2 ?_)
        cases r with
        | ok c δ2 => exact fun v H2 Fs2 F2 p2 o2 => k v H2 Fs2 F2 (p.dropR.comp p2) o2
        | ex x => exact XOk.post k p
      | false =>
        cases h2
        exact iteF (k _ H1 Fs1 [] (p.dropR.mono fun i m => List.mem_append_left _ m) (.bl _))
    | _ => cases h2
  · exact h σ H δ Fs _ _ E s h1 k
theorem de_orV {rest : List Expr} {κ2 : Kd} {f g : EM D} (h : DE S a κ2 M1 f) (hr : DE S (.BoolOp .Or (b :: rest) pos) .own M2 g) : DE S (.BoolOp .Or (a :: b :: rest) pos) .own (M1 ++ M2) (cOrV f g) := fun σ H δ Fs Q r E s hf k => by
  refine ⟨_, fun X hX => pe_or (pe_tB hX) (pe_tB hX), ?_⟩
  show tB S a σ H fun x H1 => ∃ c, x = .bl c ∧ if c = true then Q (.bl true) H1 else tB S (.BoolOp .Or (b :: rest) pos) σ H1 Q
  rcases bind_some hf with ⟨d, δ1, h1, h2⟩ | ⟨x, h1, rfl⟩
  · refine h σ H δ Fs _ _ E s h1 fun v H1 Fs1 F p o => ?_
    cases d with
    | bool c =>
      refine ⟨c, own_bl p.env o, ?_⟩
      cases c with
      | true =>
        cases h2
        exact iteT (k _ H1 Fs1 [] (p.dropR.mono fun i m => List.mem_append_left _ m) (.bl _))
      | false =>
        refine iteF (hr σ H1 δ1 Fs1 Q r p.env p.sep0 h2 ?_)
        cases r with
        | ok c δ2 => exact fun v H2 Fs2 F2 p2 o2 => k v H2 Fs2 F2 (p.dropR.comp p2) o2
        | ex x => exact XOk.post k p
    | _ => cases h2
  · exact h σ H δ Fs _ _ E s h1 k
/-- x if t else y -/
@[simp] def cIfE (t : EM Bool) (f g : EM D) : EM D := EM.bind t fun b δ => if b = true then f δ else g δ
theorem de_if {M3 : List Nat} {t : EM Bool} {f g : EM D} (ht : DT S a M1 t) (hf' : DE S b .own M2 f) (hg : DE S c .own M3 g) : DE S (.IfExp a b c pos) .own (M1 ++ (M2 ++ M3)) (cIfE t f g) := fun σ H δ Fs Q r E s hf k => by
  refine ⟨_, fun X hX => pe_ifExp (pt_tB hX) (pe_tB hX) (pe_tB hX), ?_⟩
  show tBT S a σ H fun x H1 => if x = true then tB S b σ H1 Q else tB S c σ H1 Q
  rcases bind_some hf with ⟨d, δ1, h1, h2⟩ | ⟨x, h1, rfl⟩
  · refine ht σ H δ Fs _ _ E s h1 fun H1 Fs1 p => ?_
    cases d with
    | true =>
      rw [if_pos rfl] at h2
      refine iteT (hf' σ H1 δ1 Fs1 Q r p.env p.sep h2 ?_)
      cases r with
      | ok c δ2 => exact fun v H2 Fs2 F2 p2 o2 => k v H2 Fs2 F2 (p.comp (p2.mono fun i m => List.mem_append_left _ m)) o2
      | ex x => exact XOk.post k p
    | false =>
      rw [if_neg Bool.false_ne_true] at h2
      refine iteF (hg σ H1 δ1 Fs1 Q r p.env p.sep h2 ?_)
      cases r with
      | ok c δ2 => exact fun v H2 Fs2 F2 p2 o2 => k v H2 Fs2 F2 (p.comp (p2.mono fun i m => List.mem_append_right _ m)) o2
      | ex x => exact XOk.post k p
  · exact ht σ H δ Fs _ _ E s h1 k
end
/-! ### slices -/
def cutD (xs : List D) (lo hi : Option Int) : List D := (xs.drop (HT.sIx xs.length 0 lo)).take (HT.sIx xs.length xs.length hi - HT.sIx xs.length 0 lo)
@[simp] def sliceD : D → Option Int → Option Int → Option D
  | .list ds, lo, hi => if imms ds = true then some (.list (cutD ds lo hi)) else none
  | .tuple ds, lo, hi => if imms ds = true then some (.tuple (cutD ds lo hi)) else none
  | .str z, lo, hi => if z.length ≤ 1000000 then some (.str (cutS z lo hi)) else none
  | _, _, _ => none
theorem Reps.takeI {K : PySem.W.Frag} {H : Hp} : ∀ {vs : List V} {ds : List D} (n : Nat), Reps K H vs ds [] → Reps K H (vs.take n) (ds.take n) []
  | _, _, 0, _ => .nil
  | _, _, n + 1, r => by
    generalize e : ([] : List Addr) = F at r
    cases r with
    | nil => rw [e]; exact .nil
    | @cons _ _ F _ _ G r t =>
      have e1 : F = [] ∧ G = [] := List.append_eq_nil_iff.mp e.symm
      obtain ⟨rfl, rfl⟩ := e1
      exact .cons r (Reps.takeI n t)
theorem Reps.dropI {K : PySem.W.Frag} {H : Hp} : ∀ {vs : List V} {ds : List D} (n : Nat), Reps K H vs ds [] → Reps K H (vs.drop n) (ds.drop n) []
  | _, _, 0, r => r
  | _, _, n + 1, r => by
    generalize e : ([] : List Addr) = F at r
    cases r with
    | nil => rw [e]; exact .nil
    | @cons _ _ F _ _ G r t =>
      have e1 : F = [] ∧ G = [] := List.append_eq_nil_iff.mp e.symm
      obtain ⟨rfl, rfl⟩ := e1
      exact Reps.dropI n t
theorem Reps.cut {K : PySem.W.Frag} {H : Hp} {vs : List V} {ds : List D} {lo hi : Option Int} (r : Reps K H vs ds []) : Reps K H (cutV vs lo hi) (cutD ds lo hi) [] := by
  unfold cutV cutD
  rw [r.length]
  exact (r.dropI _).takeI _
@[simp] def gSl11 : List D → Option D
  | [d, .int i, .int j] => sliceD d (some i) (some j)
  | _ => none
@[simp] def gSl10 : List D → Option D
  | [d, .int i] => sliceD d (some i) none
  | _ => none
@[simp] def gSl01 : List D → Option D
  | [d, .int j] => sliceD d none (some j)
  | _ => none
@[simp] def gSl00 : List D → Option D
  | [d] => sliceD d none none
  | _ => none
theorem slice_rule {d dz : D} {i j : Option Int} (h : sliceD d i j = some dz) : ∃ r : V → Option Int → Option Int → Hp → VK → Prop, (∀ X, Fits S X → SlR X r) ∧ ∀ H v F Q, Rep S.K H v d F → (∀ z H' Fz, NewV S.K H z dz H' Fz → Q z H') → r v i j H Q := by
  unfold sliceD at h
  split at h
  · split at h
    · rename_i hi
      cases h
      refine ⟨rSlL S.K, fun X hX => (by rw [← hX.K]; exact sl_list), fun H v F Q r k => ?_⟩
      obtain ⟨p, vs, G, rfl, hp, s⟩ := lst_read r
      exact ⟨p, vs, rfl, hp, fun q hq => k _ _ _ (NewV.lst hq (s.imm' hi).cut)⟩
    · cases h
  · rename_i ds
    split at h
    · rename_i hi
      cases h
      refine ⟨rSlA S.K, fun X hX => (by rw [← hX.K]; exact sl_tupA), fun H v F Q r k => ?_⟩
      have r2 := r.imm' (by rw [imm_tup]; exact hi)
      obtain ⟨p, vs, rfl, hp, s⟩ := r2.iTup
      refine ⟨p, vs, rfl, hp, fun e => ?_, fun _ q hq => k _ _ _ (NewV.tup hq s.cut)⟩
      have e2 : cutD ds i j = ds := by
        unfold cutD
        rw [s.length] at e
        rw [e.1, e.2, List.drop_zero, Nat.sub_zero]
        exact List.take_length
      exact k _ _ _ (.same (by rw [e2]; exact r2))
    · cases h
  · split at h
    · rename_i hl
      cases h
      exact ⟨rSlS, fun X _ => sl_str, fun H v F Q r k => ⟨_, r.iStr, lim_line hl, k _ _ _ (.same (.str _))⟩⟩
    · cases h
  · cases h
section
variable {a b c : Expr} {pos p2 : Pos} {κ : Kd} {κs : List Kd} {M M0 M1 M2 : List Nat} {f : EM (List D)}
theorem de_sl00 (hA : DA S [a] κs M f) : DE S (.Subscript a (.Slice none none none p2) pos) .own M (cV f gSl00) := by
  have g : ∀ {r : V → Option Int → Option Int → Hp → VK → Prop}, (∀ X, Fits S X → SlR X r) → ∀ X, Fits S X → PE X (.Subscript a (.Slice none none none p2) pos) (fun σ H Q => tBA S [a] σ H fun vs H1 => l1 (fun v H Q => r v none none H Q) vs H1 Q) := fun h X hX => pe_slice (h X hX) (pe_tB hX) po_none po_none
  refine de_v hA ⟨_, g (fun _ _ => sl_str)⟩ fun ds dz h => ?_
  unfold gSl00 at h
  split at h
  · obtain ⟨r, hr, ok⟩ := slice_rule (S := S) h
    refine ⟨_, g hr, fun H vs F Q rp k => ?_⟩
    obtain ⟨v, G, rfl, r1⟩ := rp.i1
    exact ok H v G Q r1 k
  · cases h
theorem de_sl10 (hA : DA S [a, b] κs M f) : DE S (.Subscript a (.Slice (some b) none none p2) pos) .own M (cV f gSl10) := by
  have g : ∀ {r : V → Option Int → Option Int → Hp → VK → Prop}, (∀ X, Fits S X → SlR X r) → ∀ X, Fits S X → PE X (.Subscript a (.Slice (some b) none none p2) pos) (fun σ H Q => tBA S [a, b] σ H fun vs H1 => l2 (fun v w H Q => ∃ i, w = .int i ∧ r v (some i) none H Q) vs H1 Q) := fun h X hX => pe_slice (h X hX) (pe_tB hX) (po_some (pe_tB hX)) po_none
  refine de_v hA ⟨_, g (fun _ _ => sl_str)⟩ fun ds dz h => ?_
  unfold gSl10 at h
  split at h
  · obtain ⟨r, hr, ok⟩ := slice_rule (S := S) h
    refine ⟨_, g hr, fun H vs F Q rp k => ?_⟩
    obtain ⟨v, w, G, G', rfl, r1, r2⟩ := rp.i2
    exact ⟨_, r2.iInt, ok H v G Q r1 k⟩
  · cases h
theorem de_sl01 (hA : DA S [a, b] κs M f) : DE S (.Subscript a (.Slice none (some b) none p2) pos) .own M (cV f gSl01) := by
  have g : ∀ {r : V → Option Int → Option Int → Hp → VK → Prop}, (∀ X, Fits S X → SlR X r) → ∀ X, Fits S X → PE X (.Subscript a (.Slice none (some b) none p2) pos) (fun σ H Q => tBA S [a, b] σ H fun vs H1 => l2 (fun v w H Q => ∃ i, w = .int i ∧ r v none (some i) H Q) vs H1 Q) := fun h X hX => pe_slice (h X hX) (pe_tB hX) po_none (po_some (pe_tB hX))
  refine de_v hA ⟨_, g (fun _ _ => sl_str)⟩ fun ds dz h => ?_
  unfold gSl01 at h
  split at h
  · obtain ⟨r, hr, ok⟩ := slice_rule (S := S) h
    refine ⟨_, g hr, fun H vs F Q rp k => ?_⟩
    obtain ⟨v, w, G, G', rfl, r1, r2⟩ := rp.i2
    exact ⟨_, r2.iInt, ok H v G Q r1 k⟩
  · cases h
theorem Out.ex_or {α : Type} (r : Out α) : (∃ a δ, r = .ok a δ) ∨ ∃ x, r = .ex x := by
  cases r with
  | ok a δ => exact .inl ⟨a, δ, rfl⟩
  | ex x => exact .inr ⟨x, rfl⟩
/-- a[b:c], the bounds by themselves -/
@[simp] def cSl3 (κ : Kd) (fa f1 f2 : EM D) : EM D := EM.bind fa fun d => EM.bind f1 fun i => EM.bind f2 fun j δ => match reread κ d δ with
  | some d' => match gSl11 [d', i, j] with
    | some z => match i with
      | .int _ => some (.ok z δ)
      | _ => none
    | none => none
  | none => none
theorem de_sl11 {fa f1 f2 : EM D} (ha : DE S a κ M0 fa) (h1 : DE S b .own M1 f1) (h2 : DE S c .own M2 f2) (h1i : ∀ δ d δ', f1 δ = some (.ok d δ') → ∃ i, d = .int i) (c1 : okk κ (M1 ++ M2) = true := by rfl) :
    DE S (.Subscript a (.Slice (some b) (some c) none p2) pos) .own (M0 ++ (M1 ++ M2)) (cSl3 κ fa f1 f2) := fun σ H δ Fs Q r E s hf k => by
  have g : ∀ {r : V → Option Int → Option Int → Hp → VK → Prop}, (∀ X, Fits S X → SlR X r) → ∀ X, Fits S X → PE X (.Subscript a (.Slice (some b) (some c) none p2) pos) (tSl r (tB S a) (tPart (tB S b)) (tPart (tB S c))) := fun h X hX => pe_slice (h X hX) (pe_tB hX) (po_some (pe_tB hX)) (po_some (pe_tB hX))
  rcases bind_some hf with ⟨d, δ1, e1, hf1⟩ | ⟨x, e1, rfl⟩
  · rcases bind_some hf1 with ⟨i, δ2, e2, hf2⟩ | ⟨x, e2, rfl⟩
    · obtain ⟨i, rfl⟩ := h1i _ _ _ e2
      rcases bind_some hf2 with ⟨j, δ3, e3, hf3⟩ | ⟨x, e3, rfl⟩
      · cases q : reread κ d δ3 with
        | none => rw [q] at hf3; cases hf3
        | some d' =>
          rw [q] at hf3
          simp only at hf3
          cases q2 : gSl11 [d', .int i, j] with
          | none => rw [q2] at hf3; cases hf3
          | some z =>
            rw [q2] at hf3
            cases hf3
            unfold gSl11 at q2
            split at q2
            · rename_i h
              cases h
              obtain ⟨r, hr, ok⟩ := slice_rule (S := S) q2
              refine ⟨_, g hr, ha σ H δ Fs _ _ E s e1 fun v H1 Fs1 F1 p1 o1 => h1 σ H1 δ1 Fs1 _ _ p1.env p1.sep0 e2 fun w H2 Fs2 F2 p2 o2 => ⟨_, Rep.iInt o2, h2 σ H2 δ2 Fs2 _ _ p2.env p2.sep0 e3 fun u H3 Fs3 F3 p3 o3 => ⟨_, Rep.iInt o3, ?_⟩⟩⟩
              have pp := (p1.comp (p2.comp p3))
              obtain ⟨G, rp⟩ := (o1.carry p1.sep (p2.comp p3) c1 q).rep p3.env
              exact ok H3 v G Q rp fun z' H4 Fz n => k z' H4 Fs3 Fz (pp.newv n) n.rep
            · cases q2
      · exact ⟨_, g (r := rSlS) (fun _ _ => sl_str), ha σ H δ Fs _ _ E s e1 fun v H1 Fs1 F1 p1 o1 => h1 σ H1 δ1 Fs1 _ _ p1.env p1.sep0 e2 fun w H2 Fs2 F2 p2 o2 => ⟨_, Rep.iInt o2, h2 σ H2 δ2 Fs2 _ _ p2.env p2.sep0 e3 ((XOk.post k p1).post p2)⟩⟩
    · exact ⟨_, g (r := rSlS) (fun _ _ => sl_str), ha σ H δ Fs _ _ E s e1 fun v H1 Fs1 F1 p1 o1 => h1 σ H1 δ1 Fs1 _ _ p1.env p1.sep0 e2 (XOk.post k p1)⟩
  · exact ⟨_, g (r := rSlS) (fun _ _ => sl_str), ha σ H δ Fs _ _ E s e1 k⟩
end
end DL
/-! DL7: promises of defs, calls of defs. -/
namespace DL
open PySem PySem.Spec PyProof.Rows L2
/-- what a def is worth: F on the arguments tells the value and what the arguments hold behind it; mp: the parameters that may change -/
def Prom (K : PySem.W.Frag) (mg : Str → Option Value) (F : EM D) (mp : List Nat) (n : Nat) : Sp := fun vs H Q E => vs.length = n ∧ ∃ δ Fp r, EnvR K H (vs.map some) δ Fp ∧ Sep Fp [] ∧ F δ = some r ∧
  match r with
  | .ok d δ' => ∀ v H' Fp' Fr, Post K mp H δ Fp (vs.map some) H' δ' Fp' Fr → Rep K H' v d Fr → Q v H'
  | .ex x => ∀ cv da H', ExR mg K H' x cv da → Keep (InAll Fp) H H' → E cv da H'
/-- a def of the module, by its promise -/
structure FnI (P : Program) (w : World) (K : PySem.W.Frag) (mg : Str → Option Value) (base : Heap) (x : Str) (F : EM D) (mp : List Nat) (n k : Nat) : Prop where
  ex : ∃ f fd ps, FnOk P w K mg base (L2.CX P w) k f fd ps (Prom K mg F mp n) ∧ mg x = some (.ref f) ∧ PySem.W.keepIn K (.ref f) = true ∧ Binds K fd ps []
@[simp] def jOf (mp : List Nat) (i : Nat) : Nat → List Kd → Option Nat
  | _, [] => none
  | j, .sl i' :: r => if i' = i ∧ mp.contains j = true then some j else jOf mp i (j + 1) r
  | j, _ :: r => jOf mp i (j + 1) r
theorem jOf_some {mp : List Nat} {i : Nat} : ∀ {κs : List Kd} {b j : Nat}, jOf mp i b κs = some j → b ≤ j ∧ κs[j - b]? = some (.sl i) ∧ j ∈ mp
  | [], _, _, h => by cases h
  | κ :: r, b, j, h => by
    have step : jOf mp i (b + 1) r = some j → b ≤ j ∧ (κ :: r)[j - b]? = some (.sl i) ∧ j ∈ mp := fun h => by
      obtain ⟨h1, h2, h3⟩ := jOf_some h
      refine ⟨by omega, ?_, h3⟩
      rw [show j - b = (j - (b + 1)) + 1 by omega]
      simpa using h2
    cases κ with
    | sl i' =>
      unfold jOf at h
      by_cases c : i' = i ∧ mp.contains b = true
      · rw [if_pos c] at h
        cases h
        exact ⟨Nat.le_refl _, by rw [Nat.sub_self, c.1]; rfl, by simpa using c.2⟩
      · rw [if_neg c] at h; exact step h
    | own => exact step h
    | bor B => exact step h
theorem jOf_none {mp : List Nat} {i : Nat} : ∀ {κs : List Kd} {b : Nat}, jOf mp i b κs = none → ∀ j, κs[j]? = some (.sl i) → (b + j) ∉ mp
  | [], _, _, j, e => by simp at e
  | κ :: r, b, h, j, e => by
    have step : jOf mp i (b + 1) r = none → ∀ j, r[j]? = some (.sl i) → (b + (j + 1)) ∉ mp := fun h j e => by
      have := jOf_none h j e
      rwa [show b + (j + 1) = b + 1 + j by omega]
    cases κ with
    | sl i' =>
      unfold jOf at h
      by_cases c : i' = i ∧ mp.contains b = true
      · rw [if_pos c] at h; cases h
      · rw [if_neg c] at h
        cases j with
        | zero =>
          simp at e
          intro m
          exact c ⟨e, by simpa using m⟩
        | succ j => exact step h j (by simpa using e)
    | own =>
      cases j with
      | zero => simp at e
      | succ j => exact step h j (by simpa using e)
    | bor B =>
      cases j with
      | zero => simp at e
      | succ j => exact step h j (by simpa using e)
@[simp] def mapI (g : Nat → Option D → Option D) : Nat → DEnv → DEnv
  | _, [] => []
  | i, o :: r => g i o :: mapI g (i + 1) r
theorem mapI_get (g : Nat → Option D → Option D) : ∀ (δ : DEnv) (k i : Nat), (mapI g k δ)[i]? = (δ[i]?).map (g (k + i))
  | [], _, _ => by simp [mapI]
  | o :: r, k, 0 => by simp [mapI]
  | o :: r, k, i + 1 => by
    rw [mapI]
    simp only [List.getElem?_cons_succ]
    rw [mapI_get g r (k + 1) i, show k + 1 + i = k + (i + 1) by omega]
theorem mapI_len (g : Nat → Option D → Option D) : ∀ (δ : DEnv) (k : Nat), (mapI g k δ).length = δ.length
  | [], _ => rfl
  | o :: r, k => by rw [mapI, List.length_cons, List.length_cons, mapI_len g r]
/-- the caller's environment behind a call -/
@[simp] def backD (mp : List Nat) (κs : List Kd) (δ' δ : DEnv) : DEnv := mapI (fun i o => match jOf mp i 0 κs with
  | some j => (δ'[j]?).join
  | none => o) 0 δ
def slOf : Kd → Option Nat
  | .sl i => some i
  | _ => none
def callM (mp : List Nat) : Nat → List Kd → List Nat
  | _, [] => []
  | j, .sl i :: r => if mp.contains j = true then i :: callM mp (j + 1) r else callM mp (j + 1) r
  | j, _ :: r => callM mp (j + 1) r
theorem callM_mem {mp : List Nat} {i : Nat} : ∀ {κs : List Kd} {b : Nat}, (∃ j, κs[j]? = some (.sl i) ∧ (b + j) ∈ mp) → i ∈ callM mp b κs
  | [], _, ⟨j, e, _⟩ => by simp at e
  | κ :: r, b, ⟨j, e, m⟩ => by
    cases j with
    | zero =>
      simp at e
      subst e
      unfold callM
      rw [if_pos (by simpa using m)]
      exact List.mem_cons_self
    | succ j =>
      have ih : i ∈ callM mp (b + 1) r := callM_mem ⟨j, by simpa using e, by rwa [show b + 1 + j = b + (j + 1) by omega]⟩
      cases κ with
      | sl i' =>
        unfold callM
        split
        · exact List.mem_cons_of_mem _ ih
        · exact ih
      | own => exact ih
      | bor B => exact ih
def argOk : Kd → Bool
  | .bor _ => false
  | _ => true
theorem OpnL.lenV {K : PySem.W.Frag} {H : Hp} {σ : L2.St} {δ : DEnv} {Fs : FT} : ∀ {κs : List Kd} {vs : List V} {ds : List D} {Gs : List (List Addr)}, OpnL K H σ δ Fs κs vs ds Gs → vs.length = ds.length ∧ κs.length = ds.length
  | _, _, _, _, .nil => ⟨rfl, rfl⟩
  | _, _, _, _, .cons _ t => by
    have := t.lenV
    simp only [List.length_cons]
    omega
theorem OpnL.get {K : PySem.W.Frag} {H : Hp} {σ : L2.St} {δ : DEnv} {Fs : FT} : ∀ {κs : List Kd} {vs : List V} {ds : List D} {Gs : List (List Addr)} {j : Nat} {κ : Kd}, OpnL K H σ δ Fs κs vs ds Gs → κs[j]? = some κ → ∃ v d F, vs[j]? = some v ∧ ds[j]? = some d ∧ Gs[j]? = some F ∧ Opn K H σ δ Fs F κ v d
  | _, _, _, _, _, _, .nil, e => by simp at e
  | _, _, _, _, 0, _, .cons h t, e => by
    simp at e; subst e
    exact ⟨_, _, _, rfl, rfl, rfl, h⟩
  | _, _, _, _, j + 1, _, .cons h t, e => by
    obtain ⟨v, d, F, h1, h2, h3, h4⟩ := t.get (j := j) (by simpa using e)
    exact ⟨v, d, F, by simpa using h1, by simpa using h2, by simpa using h3, h4⟩
theorem flat_mem {Gs : List (List Addr)} {j : Nat} {F : List Addr} {a : Addr} (h : Gs[j]? = some F) (m : a ∈ F) : a ∈ Gs.flatten := List.mem_flatten.mpr ⟨F, List.mem_of_getElem? h, m⟩
theorem flat_nd : ∀ {Gs : List (List Addr)} {j : Nat} {F : List Addr}, Gs.flatten.Nodup → Gs[j]? = some F → F.Nodup
  | [], _, _, _, h => by simp at h
  | G :: Gs, 0, _, nd, h => by
    simp at h; subst h
    rw [List.flatten_cons] at nd
    exact (List.nodup_append.mp nd).1
  | G :: Gs, j + 1, _, nd, h => by
    rw [List.flatten_cons] at nd
    exact flat_nd (j := j) (List.nodup_append.mp nd).2.1 (by simpa using h)
theorem flat_dis : ∀ {Gs : List (List Addr)} {i j : Nat} {F G : List Addr} {a : Addr}, Gs.flatten.Nodup → Gs[i]? = some F → Gs[j]? = some G → i ≠ j → a ∈ F → a ∉ G
  | [], _, _, _, _, _, _, h, _, _, _ => by simp at h
  | X :: Gs, 0, 0, _, _, _, _, _, _, n, _ => absurd rfl n
  | X :: Gs, 0, j + 1, F, G, a, nd, h, h', _, m => fun z => by
    simp at h; subst h
    rw [List.flatten_cons] at nd
    exact (List.nodup_append.mp nd).2.2 a m a (flat_mem (j := j) (by simpa using h') z) rfl
  | X :: Gs, i + 1, 0, F, G, a, nd, h, h', _, m => fun z => by
    simp at h'; subst h'
    rw [List.flatten_cons] at nd
    exact (List.nodup_append.mp nd).2.2 a z a (flat_mem (j := i) (by simpa using h) m) rfl
  | X :: Gs, i + 1, j + 1, _, _, _, nd, h, h', n, m => by
    rw [List.flatten_cons] at nd
    exact flat_dis (i := i) (j := j) (List.nodup_append.mp nd).2.1 (by simpa using h) (by simpa using h') (fun e => n (by rw [e])) m
theorem slots_inj : ∀ {κs : List Kd} {i j j' : Nat}, (κs.filterMap slOf).Nodup → κs[j]? = some (.sl i) → κs[j']? = some (.sl i) → j = j'
  | [], _, _, _, _, h, _ => by simp at h
  | κ :: r, i, 0, 0, _, _, _ => rfl
  | κ :: r, i, 0, j' + 1, nd, h, h' => by
    simp at h; subst h
    have nd : (i :: r.filterMap slOf).Nodup := nd
    exact absurd (show i ∈ r.filterMap slOf from List.mem_filterMap.mpr ⟨Kd.sl i, List.mem_of_getElem? (i := j') (by simpa using h'), rfl⟩) (List.nodup_cons.mp nd).1
  | κ :: r, i, j + 1, 0, nd, h, h' => by
    simp at h'; subst h'
    have nd : (i :: r.filterMap slOf).Nodup := nd
    exact absurd (show i ∈ r.filterMap slOf from List.mem_filterMap.mpr ⟨Kd.sl i, List.mem_of_getElem? (i := j) (by simpa using h), rfl⟩) (List.nodup_cons.mp nd).1
  | κ :: r, i, j + 1, j' + 1, nd, h, h' => by
    have nd2 : (r.filterMap slOf).Nodup := by
      rw [List.filterMap_cons] at nd
      split at nd
      · exact nd
      · exact (List.nodup_cons.mp nd).2
    rw [slots_inj (j := j) (j' := j') nd2 (by simpa using h) (by simpa using h')]
def argF (κs : List Kd) (Frs : List (List Addr)) (Fs : FT) : FT := fun j => match κs[j]? with
  | some .own => Frs.getD j []
  | some (.sl i) => Fs i
  | _ => []
def backF (mp : List Nat) (κs : List Kd) (Fp' Fs : FT) : FT := fun i => match jOf mp i 0 κs with
  | some j => Fp' j
  | none => Fs i
section
variable {K : PySem.W.Frag} {H H1 H2 : Hp} {σ : L2.St} {δ δ1 δ' : DEnv} {Fs Fs1 Fp' : FT} {κs : List Kd} {vs : List V} {ds : List D} {Frs : List (List Addr)} {M mp : List Nat} {Fr : List Addr}
theorem argF_own {j : Nat} {F : List Addr} (h : κs[j]? = some .own) (g : Frs[j]? = some F) : argF κs Frs Fs j = F := by
  unfold argF
  rw [h]
  show Frs.getD j [] = F
  rw [List.getD_eq_getElem?_getD, g]
  rfl
theorem argF_sl {j i : Nat} (h : κs[j]? = some (.sl i)) : argF κs Frs Fs j = Fs i := by
  unfold argF
  rw [h]
theorem argF_mem {j : Nat} {a : Addr} (o : OpnL K H1 σ δ1 Fs1 κs vs ds Frs) (m : a ∈ argF κs Frs Fs1 j) : (κs[j]? = some .own ∧ ∃ F, Frs[j]? = some F ∧ a ∈ F) ∨ ∃ i, κs[j]? = some (.sl i) ∧ a ∈ Fs1 i := by
  unfold argF at m
  split at m
  · rename_i h
    obtain ⟨v, d, F, _, _, h3, _⟩ := o.get h
    refine .inl ⟨h, F, h3, ?_⟩
    rw [List.getD_eq_getElem?_getD, h3] at m
    exact m
  · rename_i i h
    exact .inr ⟨i, h, m⟩
  · cases m
theorem args_env (p : Post K M H δ Fs σ H1 δ1 Fs1 Frs.flatten) (o : OpnL K H1 σ δ1 Fs1 κs vs ds Frs) (hk : κs.all argOk = true) : EnvR K H1 (vs.map some) (ds.map some) (argF κs Frs Fs1) := by
  refine ⟨by simp [o.lenV.1], fun j d e => ?_, fun j h => ?_⟩
  · rw [List.getElem?_map] at e
    cases q : ds[j]? with
    | none => rw [q] at e; cases e
    | some d' =>
      rw [q] at e
      cases e
      have hj : j < κs.length := by
        rw [o.lenV.2]
        exact (List.getElem?_eq_some_iff.mp q).1
      obtain ⟨v, d2, F, h1, h2, h3, h4⟩ := o.get (List.getElem?_eq_getElem hj)
      rw [q] at h2
      cases h2
      have hk' : argOk κs[j] = true := List.all_eq_true.mp hk _ (List.getElem_mem hj)
      have hg := List.getElem?_eq_getElem hj
      generalize hκ : κs[j] = κ at h4 hk' hg
      refine ⟨v, by rw [List.getElem?_map, h1]; rfl, ?_⟩
      cases κ with
      | own => rw [argF_own hg h3]; exact h4
      | sl i =>
        rw [argF_sl hg]
        obtain ⟨_, h5, h6⟩ := h4
        obtain ⟨w, h7, h8⟩ := p.env.at i d h6
        rw [h5] at h7
        cases h7
        exact h8
      | bor B => cases hk'
  · unfold argF
    split
    · rename_i q
      obtain ⟨v, d, F, _, h2, _, _⟩ := o.get q
      exact absurd (by rw [List.getElem?_map, h2]; rfl) (h d)
    · rename_i i q
      obtain ⟨v, d, F, _, h2, _, _⟩ := o.get q
      exact absurd (by rw [List.getElem?_map, h2]; rfl) (h d)
    · rfl
theorem args_sep (p : Post K M H δ Fs σ H1 δ1 Fs1 Frs.flatten) (o : OpnL K H1 σ δ1 Fs1 κs vs ds Frs) (hd : (κs.filterMap slOf).Nodup) : Sep (argF κs Frs Fs1) [] := by
  refine ⟨List.nodup_nil, fun j => ?_, fun i j n a m m' => ?_, fun _ _ m => (nomatch m)⟩
  · unfold argF
    split
    · rename_i q
      obtain ⟨v, d, F, _, _, h3, _⟩ := o.get q
      rw [List.getD_eq_getElem?_getD, h3]
      exact flat_nd p.sep.ndr h3
    · exact p.sep.nds _
    · exact List.nodup_nil
  · rcases argF_mem o m with ⟨h1, F, h2, h3⟩ | ⟨x, h1, h2⟩
    · rcases argF_mem o m' with ⟨g1, G, g2, g3⟩ | ⟨y, g1, g2⟩
      · exact flat_dis p.sep.ndr h2 g2 n h3 g3
      · exact p.sep.dir y a (flat_mem h2 h3) g2
    · rcases argF_mem o m' with ⟨g1, G, g2, g3⟩ | ⟨y, g1, g2⟩
      · exact p.sep.dir x a (flat_mem g2 g3) h2
      · by_cases e : x = y
        · subst e
          exact n (slots_inj hd h1 g1)
        · exact p.sep.dis x y e a h2 g2
/-- the caller's state behind a call -/
theorem Post.call (p : Post K M H δ Fs σ H1 δ1 Fs1 Frs.flatten) (o : OpnL K H1 σ δ1 Fs1 κs vs ds Frs) (hd : (κs.filterMap slOf).Nodup)
    (q : Post K mp H1 (ds.map some) (argF κs Frs Fs1) (vs.map some) H2 δ' Fp' Fr) : Post K (M ++ callM mp 0 κs) H δ Fs σ H2 (backD mp κs δ' δ1) (backF mp κs Fp' Fs1) Fr := by
  -- what the callee may touch
  have tch : ∀ a, InM mp (argF κs Frs Fs1) a → (∃ F j, Frs[j]? = some F ∧ a ∈ F) ∨ ∃ j i, κs[j]? = some (.sl i) ∧ j ∈ mp ∧ a ∈ Fs1 i := fun a ⟨j, hj, m⟩ => by
    rcases argF_mem o m with ⟨_, F, h2, h3⟩ | ⟨i, h1, h2⟩
    · exact .inl ⟨F, j, h2, h3⟩
    · exact .inr ⟨j, i, h1, hj, h2⟩
  -- a slot that is not handed over is not touched
  have away : ∀ i, jOf mp i 0 κs = none → ∀ a ∈ Fs1 i, ¬ (InM mp (argF κs Frs Fs1) a ∨ H1 a = none) := fun i hi a m h => by
    rcases h with h | h
    · rcases tch a h with ⟨F, j, h2, h3⟩ | ⟨j, i', h1, hj, h2⟩
      · exact p.sep.dir i a (flat_mem h2 h3) m
      · by_cases e : i' = i
        · subst e
          exact jOf_none hi j h1 (by simpa using hj)
        · exact p.sep.dis i' i e a h2 m
    · obtain ⟨u, e, _⟩ := p.env.trk m
      rw [e] at h; cases h
  have slot : ∀ {i j : Nat}, jOf mp i 0 κs = some j → κs[j]? = some (Kd.sl i) ∧ j ∈ mp := fun h => by
    have := jOf_some h
    exact ⟨by simpa using this.2.1, this.2.2⟩
  have inCall : ∀ {i j}, jOf mp i 0 κs = some j → i ∈ callM mp 0 κs := fun h => callM_mem ⟨_, (slot h).1, by simpa using (slot h).2⟩
  have back : ∀ a, InM mp (argF κs Frs Fs1) a ∨ H1 a = none → InM (M ++ callM mp 0 κs) Fs a ∨ H a = none := fun a h => by
    rcases h with h | h
    · rcases tch a h with ⟨F, j, h2, h3⟩ | ⟨j, i, h1, hj, h2⟩
      · exact (p.subr a (flat_mem h2 h3)).imp (fun z => z.mono fun i m => List.mem_append_left _ m) id
      · by_cases hm : i ∈ M
        · exact (p.sub i hm a h2).imp (fun z => z.mono fun i m => List.mem_append_left _ m) id
        · rw [(p.same i hm).1] at h2
          exact .inl ⟨i, List.mem_append_right _ (callM_mem ⟨j, h1, by simpa using hj⟩), h2⟩
    · exact (p.old h).imp (fun z => z.mono fun i m => List.mem_append_left _ m) id
  have hjv : ∀ {i j : Nat}, κs[j]? = some (Kd.sl i) → ∃ v, vs[j]? = some v ∧ σ[i]? = some (some v) := fun h => by
    obtain ⟨v, d, F, h1, _, _, h4⟩ := o.get h
    exact ⟨v, h1, h4.2.1⟩
  have getB : ∀ i, (backD mp κs δ' δ1)[i]? = (δ1[i]?).map fun x => match jOf mp i 0 κs with
      | some j => (δ'[j]?).join
      | none => x := fun i => by
    unfold backD
    rw [mapI_get, Nat.zero_add]
  refine ⟨⟨?_, fun i d e => ?_, fun i h => ?_⟩, ⟨q.sep.ndr, fun i => ?_, fun i i' n a m => ?_, fun i a m => ?_⟩, q.trk, fun i hi a m => ?_, fun a m => back a (q.subr a m), fun a u e c => ?_, fun i n => ?_⟩
  · rw [p.env.len]
    unfold backD
    rw [mapI_len]
  · rw [getB] at e
    cases e1 : δ1[i]? with
    | none => rw [e1] at e; cases e
    | some x =>
      rw [e1] at e
      have e : (match jOf mp i 0 κs with | some j => (δ'[j]?).join | none => x) = some d := Option.some.inj e
      unfold backF
      cases e2 : jOf mp i 0 κs with
      | none =>
        rw [e2] at e
        have e : x = some d := e
        subst e
        obtain ⟨v, h1, h2⟩ := p.env.at i d e1
        exact ⟨v, h1, h2.keep q.keep fun a m z => away i e2 a m (.inl z)⟩
      | some j =>
        rw [e2] at e
        have e : (δ'[j]?).join = some d := e
        obtain ⟨v, h1, h2⟩ := hjv (slot e2).1
        have e3 : δ'[j]? = some (some d) := by
          cases h : δ'[j]? with
          | none => rw [h] at e; cases e
          | some x => rw [h] at e; exact congrArg some e
        obtain ⟨v', h3, h4⟩ := q.env.at j d e3
        rw [List.getElem?_map, h1] at h3
        cases h3
        exact ⟨v, h2, h4⟩
  · unfold backF
    cases e2 : jOf mp i 0 κs with
    | none =>
      refine p.env.no i fun d e => h d ?_
      rw [getB, e, e2]; rfl
    | some j =>
      refine q.env.no j fun d e => h d ?_
      obtain ⟨v, h1, h2⟩ := hjv (slot e2).1
      have hi : i < δ1.length := by rw [← p.env.len]; exact (List.getElem?_eq_some_iff.mp h2).1
      rw [getB, List.getElem?_eq_getElem hi, e2]
      show some (δ'[j]?).join = some (some d)
      rw [e]; rfl
  · unfold backF
    split
    · exact q.sep.nds _
    · exact p.sep.nds _
  · unfold backF at m ⊢
    cases e1 : jOf mp i 0 κs with
    | none =>
      rw [e1] at m
      cases e2 : jOf mp i' 0 κs with
      | none => exact p.sep.dis i i' n a m
      | some j' => exact fun z => away i e1 a m (q.sub j' (slot e2).2 a z)
    | some j =>
      rw [e1] at m
      cases e2 : jOf mp i' 0 κs with
      | none => exact fun z => away i' e2 a z (q.sub j (slot e1).2 a m)
      | some j' =>
        refine q.sep.dis j j' (fun e => n ?_) a m
        subst e
        have := (slot e1).1.symm.trans (slot e2).1
        injection this with this
        injection this
  · unfold backF
    cases e1 : jOf mp i 0 κs with
    | none => exact fun z => away i e1 a z (q.subr a m)
    | some j => exact q.sep.dir j a m
  · unfold backF at m
    cases e1 : jOf mp i 0 κs with
    | none =>
      rw [e1] at m
      by_cases hm : i ∈ M
      · exact (p.sub i hm a m).imp (fun z => z.mono fun i m => List.mem_append_left _ m) id
      · rw [(p.same i hm).1] at m
        exact .inl ⟨i, hi, m⟩
    | some j =>
      rw [e1] at m
      exact back a (q.sub j (slot e1).2 a m)
  · refine q.keep a u (p.keep a u e (c.imp (fun n z => n (z.mono fun i m => List.mem_append_left _ m)) id)) (c.imp (fun n z => ?_) id)
    rcases back a (.inl z) with z | z
    · exact n z
    · rw [e] at z; cases z
  · have n1 : i ∉ M := fun z => n (List.mem_append_left _ z)
    have n2 : jOf mp i 0 κs = none := by
      cases e : jOf mp i 0 κs with
      | none => rfl
      | some j => exact absurd (List.mem_append_right _ (inCall e)) n
    refine ⟨?_, ?_⟩
    · unfold backF
      rw [n2]
      exact (p.same i n1).1
    · rw [getB, n2, ← (p.same i n1).2]
      cases δ1[i]? <;> rfl
end
@[simp] def cCall (κs : List Kd) (F : EM D) (mp : List Nat) (f : EM (List D)) : EM D := EM.bind f fun ds δ1 => match F (ds.map some) with
  | some (.ok d δ') => some (.ok d (backD mp κs δ' δ1))
  | some (.ex x) => some (.ex x)
  | none => none
theorem Passes_of {S : Sig} {X : Cx} (h : Fits S X) : Passes (L2.CX S.P S.w) X S.E := by
  have := passes_call (X := X) (E := S.E) h.tk fun _ _ _ _ h => h
  rw [h.prog, h.w] at this
  exact this
theorem de_call {S : Sig} {x : Str} {F : EM D} {mp : List Nat} {n k : Nat} {e : Expr} {es : List Expr} {κs : List Kd} {M : List Nat} {f : EM (List D)} {p pos : Pos} (FI : FnI S.P S.w S.K S.mg S.base x F mp n k) (hk : k ≤ S.k) (gl : S.sc.names.lookup x = some .globalImplicit)
    (hA : DA S (e :: es) κs M f) (hp : Plain (e :: es)) (hn : κs.length = n) (ho : κs.all argOk = true) (hd : (κs.filterMap slOf).Nodup) (hdb : (x == ("__debug__" : Str)) = false := by decide) :
    DE S (.Call (.Name x p) (e :: es) [] pos) .own (M ++ callM mp 0 κs) (cCall κs F mp f) := fun σ H δ Fs Q r E s hf kk => by
  obtain ⟨fa, fd, ps, ok, mg, kp, bi⟩ := FI.ex
  have g : ∀ X, Fits S X → PE X (.Call (.Name x p) (e :: es) [] pos) (tCall (Prom S.K S.mg F mp n) [] S.E (tBA S (e :: es))) := fun X hX => by
    refine pe_call (CX := L2.CX S.P S.w) (k := k) (f := fa) (fd := fd) (ps := ps) (ds := []) ?_ (hX.room.mono hk) (by show X.env.scope.names.lookup x = _; rw [hX.sc]; exact gl) (by rw [hX.mg]; exact mg) (by rw [hX.K]; exact kp) (by rw [hX.K]; exact bi) .nil (Passes_of hX) (pa_tB hX hp) hdb (hp.1 _) (plain_any hp.2)
    rw [hX.prog, hX.w, hX.K, hX.mg, hX.base]
    exact ok
  refine ⟨_, g, ?_⟩
  show tBA S (e :: es) σ H fun vs H1 => Prom S.K S.mg F mp n (vs ++ []) H1 Q S.E
  rcases bind_some hf with ⟨ds, δ1, h1, h2⟩ | ⟨x, h1, rfl⟩
  · refine hA σ H δ Fs _ _ E s h1 fun vs H1 Fs1 Frs p o => ?_
    rw [List.append_nil]
    cases e1 : F (ds.map some) with
    | none => rw [e1] at h2; cases h2
    | some rr =>
      rw [e1] at h2
      refine ⟨by rw [o.lenV.1, ← o.lenV.2, hn], ds.map some, argF κs Frs Fs1, rr, args_env p o ho, args_sep p o hd, e1, ?_⟩
      cases rr with
      | ok d δ' =>
        cases h2
        exact fun v H2 Fp' Fr q rp => kk v H2 _ Fr (p.call o hd q) rp
      | ex x =>
        cases h2
        intro cv da H' er kp'
        refine kk cv da H' er (p.keep.trans kp' (fun a _ b => b.all) fun a na ⟨j, m⟩ => ?_)
        rcases argF_mem o m with ⟨_, G, h3, h4⟩ | ⟨i, h3, h4⟩
        · exact ((p.subr a (flat_mem h3 h4)).resolve_right na).all
        · exact (p.all h4).resolve_right na
  · exact hA σ H δ Fs _ _ E s h1 kk
theorem de_call0 {S : Sig} {x : Str} {F : EM D} {mp : List Nat} {k : Nat} {p pos : Pos} (FI : FnI S.P S.w S.K S.mg S.base x F mp 0 k) (hk : k ≤ S.k) (gl : S.sc.names.lookup x = some .globalImplicit) (hdb : (x == ("__debug__" : Str)) = false := by decide) :
    DE S (.Call (.Name x p) [] [] pos) .own [] (cCall [] F mp (cArgs [])) := fun σ H δ Fs Q r E s hf kk => by
  obtain ⟨fa, fd, ps, ok, mg, kp, bi⟩ := FI.ex
  have g : ∀ X, Fits S X → PE X (.Call (.Name x p) [] [] pos) (tCall (Prom S.K S.mg F mp 0) [] S.E tNil) := fun X hX => by
    refine pe_call0 (CX := L2.CX S.P S.w) (k := k) (f := fa) (fd := fd) (ps := ps) (ds := []) ?_ (hX.room.mono hk) (by show X.env.scope.names.lookup x = _; rw [hX.sc]; exact gl) (by rw [hX.mg]; exact mg) (by rw [hX.K]; exact kp) (by rw [hX.K]; exact bi) .nil (Passes_of hX) hdb
    rw [hX.prog, hX.w, hX.K, hX.mg, hX.base]
    exact ok
  refine ⟨_, g, ?_⟩
  show Prom S.K S.mg F mp 0 ([] ++ []) H Q S.E
  have p : Post S.K [] H δ Fs σ H δ Fs ([] : List (List Addr)).flatten := Post.refl E s
  have o : OpnL S.K H σ δ Fs [] [] [] [] := .nil
  have h2 : (match F (([] : List D).map some) with
    | some (.ok d δ') => some (Out.ok d (backD mp [] δ' δ))
    | some (.ex x) => some (.ex x)
    | none => none) = some r := hf
  cases e1 : F (([] : List D).map some) with
  | none => rw [e1] at h2; cases h2
  | some rr =>
    rw [e1] at h2
    refine ⟨rfl, _, argF [] [] Fs, rr, args_env p o rfl, args_sep p o List.nodup_nil, e1, ?_⟩
    cases rr with
    | ok d δ' =>
      cases h2
      exact fun v H2 Fp' Fr q rp => kk v H2 _ Fr (p.call o List.nodup_nil q) rp
    | ex x =>
      cases h2
      intro cv da H' er kp'
      exact kk cv da H' er (kp'.imp fun a na ⟨j, m⟩ => by
        rcases argF_mem o m with ⟨h, _⟩ | ⟨i, h, _⟩ <;> simp at h)
end DL
/-! DL8: what is walked; targets; comprehensions. -/
namespace DL
open PySem PySem.Spec PyProof.Rows L2
variable {S : Sig}
/-! ### targets -/
inductive Tg where
  | nm (i : Nat)
  | tup (is : List Nat)
def Tg.slots : Tg → List Nat
  | .nm i => [i]
  | .tup is => is
@[simp] def setsD : List Nat → List D → DEnv → Option DEnv
  | [], [], δ => some δ
  | i :: is, d :: ds, δ => if i < δ.length then setsD is ds (δ.set i (some d)) else none
  | _, _, _ => none
/-- the target takes an item -/
@[simp] def bindT : Tg → D → DEnv → Option DEnv
  | .nm i, d, δ => setsD [i] [d] δ
  | .tup is, .tuple ds, δ => setsD is ds δ
  | .tup _, _, _ => none
def setsV : List Nat → List V → L2.St → L2.St
  | i :: is, v :: vs, σ => setsV is vs (σ.set i (some v))
  | _, _, σ => σ
/-- a slot takes an owned value -/
theorem Post.set {K : PySem.W.Frag} {M : List Nat} {H H1 : Hp} {δ δ1 : DEnv} {Fs Fs1 : FT} {σ1 : L2.St} {F G : List Addr} {i : Nat} {v : V} {d : D} (p : Post K M H δ Fs σ1 H1 δ1 Fs1 (F ++ G)) (hi : i < δ1.length) (r : Rep K H1 v d G) :
    Post K (M ++ [i]) H δ Fs (σ1.set i (some v)) H1 (δ1.set i (some d)) (setF Fs1 i G) F := by
  have nd := List.nodup_append.mp p.sep.ndr
  refine ⟨⟨?_, fun j dj h => ?_, fun j h => ?_⟩, ⟨nd.1, fun j => ?_, fun j l hjl a m => ?_, fun j a m => ?_⟩, fun a m => p.trk a (List.mem_append_left _ m), fun j hj a m => ?_, fun a m => (p.subr a (List.mem_append_left _ m)).imp (fun z => z.mono fun i m => List.mem_append_left _ m) id, p.keep.imp fun a _ z => z.mono fun i m => List.mem_append_left _ m, fun j hj => ?_⟩
  · rw [List.length_set, List.length_set]; exact p.env.len
  · by_cases q : i = j
    · subst q
      rw [List.getElem?_set_self hi] at h
      cases h
      exact ⟨v, List.getElem?_set_self (by rw [p.env.len]; exact hi), by rw [setF_same]; exact r⟩
    · rw [List.getElem?_set_ne q] at h
      rw [List.getElem?_set_ne q, setF_ne (Ne.symm q)]
      exact p.env.at j dj h
  · by_cases q : i = j
    · subst q
      exact absurd (List.getElem?_set_self hi) (h d)
    · rw [setF_ne (Ne.symm q)]
      exact p.env.no j fun dj hh => h dj (by rw [List.getElem?_set_ne q]; exact hh)
  · by_cases q : j = i
    · rw [q, setF_same]; exact nd.2.1
    · rw [setF_ne q]; exact p.sep.nds j
  · by_cases q : j = i
    · subst q
      rw [setF_same] at m
      rw [setF_ne (Ne.symm hjl)]
      exact p.sep.dir l a (List.mem_append_right _ m)
    · rw [setF_ne q] at m
      by_cases q2 : l = i
      · subst q2
        rw [setF_same]
        exact fun z => p.sep.dir j a (List.mem_append_right _ z) m
      · rw [setF_ne q2]; exact p.sep.dis j l hjl a m
  · by_cases q : j = i
    · rw [q, setF_same]
      exact fun z => nd.2.2 a m a z rfl
    · rw [setF_ne q]; exact p.sep.dir j a (List.mem_append_left _ m)
  · by_cases q : j = i
    · subst q
      rw [setF_same] at m
      exact (p.subr a (List.mem_append_right _ m)).imp (fun z => z.mono fun i m => List.mem_append_left _ m) id
    · rw [setF_ne q] at m
      have hj' : j ∈ M := by
        rcases List.mem_append.mp hj with h | h
        · exact h
        · exact absurd (by simpa using h) q
      exact (p.sub j hj' a m).imp (fun z => z.mono fun i m => List.mem_append_left _ m) id
  · have n1 : j ∉ M := fun z => hj (List.mem_append_left _ z)
    have n2 : j ≠ i := fun z => hj (List.mem_append_right _ (by simp [z]))
    exact ⟨(setF_ne n2).trans (p.same j n1).1, (List.getElem?_set_ne (Ne.symm n2)).trans (p.same j n1).2⟩
def wipeF (vs : List Nat) (Fs : FT) : FT := fun i => if i ∈ vs then [] else Fs i
theorem wipeF_in {vs : List Nat} {Fs : FT} {i : Nat} (h : i ∈ vs) : wipeF vs Fs i = [] := if_pos h
theorem wipeF_out {vs : List Nat} {Fs : FT} {i : Nat} (h : i ∉ vs) : wipeF vs Fs i = Fs i := if_neg h
theorem Post.sets {K : PySem.W.Frag} {H H1 : Hp} {δ : DEnv} {Fs : FT} {F : List Addr} : ∀ {is : List Nat} {vs : List V} {ds : List D} {M : List Nat} {σ1 : L2.St} {δ1 δ2 : DEnv} {Fs1 : FT}, Post K M H δ Fs σ1 H1 δ1 Fs1 F → Reps K H1 vs ds [] → setsD is ds δ1 = some δ2 →
    Post K (M ++ is) H δ Fs (setsV is vs σ1) H1 δ2 (wipeF is Fs1) F
  | [], _, [], M, σ1, δ1, δ2, Fs1, p, r, h => by
    cases h
    cases r
    rw [List.append_nil]
    have e : wipeF [] Fs1 = Fs1 := funext fun i => wipeF_out (by simp)
    rw [e]
    exact p
  | i :: is, vs, d :: ds, M, σ1, δ1, δ2, Fs1, p, r, h => by
    unfold setsD at h
    by_cases hi : i < δ1.length
    · rw [if_pos hi] at h
      generalize e : ([] : List Addr) = G at r
      cases r with
      | @cons v _ F1 vs _ G1 r1 rt =>
        have e1 : F1 = [] ∧ G1 = [] := List.append_eq_nil_iff.mp e.symm
        obtain ⟨rfl, rfl⟩ := e1
        have p2 := Post.set (F := F) (G := []) (by rw [List.append_nil]; exact p) hi r1
        have p3 := Post.sets p2 rt h
        rw [List.append_assoc] at p3
        have e : wipeF is (setF Fs1 i []) = wipeF (i :: is) Fs1 := funext fun j => by
          by_cases h1 : j ∈ is
          · rw [wipeF_in h1, wipeF_in (List.mem_cons_of_mem _ h1)]
          · rw [wipeF_out h1]
            by_cases h2 : j = i
            · rw [h2, setF_same, wipeF_in List.mem_cons_self]
            · rw [setF_ne h2, wipeF_out (by simp [h1, h2])]
        rw [e] at p3
        exact p3
    · rw [if_neg hi] at h; cases h
  | [], _, _ :: _, _, _, _, _, _, _, _, h => by cases h
  | _ :: _, _, [], _, _, _, _, _, _, _, h => by cases h
/-- a target and its reading -/
structure TgOk (S : Sig) (tg : Expr) (t : Tg) : Prop where
  ex : ∃ g : TG, (∀ X, Fits S X → PG X tg g) ∧
    ∀ v d σ H (Q : L2.St → Hp → Prop) δ δ2, Rep S.K H v d [] → bindT t d δ = some δ2 → (∀ is vs ds, t.slots = is → Reps S.K H vs ds [] → setsD is ds δ = some δ2 → Q (setsV is vs σ) H) → g v σ H Q
/-- a name of the def that is stored -/
structure NmT (S : Sig) (i : Nat) (x : Str) : Prop where
  nd : S.N.Nodup
  hN : S.N[i]? = some x
  loc : Loc S.sc x
  fn : S.fn x = true ∨ S.sc.names.lookup x = some .local
theorem NmT.pg {X : Cx} {i : Nat} {x : Str} {pos : Pos} (n : NmT S i x) (h : Fits S X) : PG X (.Name x pos) (gName i) :=
  pg_name (by rw [h.N]; exact n.nd) (by rw [h.N]; exact n.hN) (by rw [h.sc]; exact n.loc) (by rw [h.sc]; exact n.fn.imp (h.fn x) id)
theorem tg_nm {i : Nat} {x : Str} {pos : Pos} (n : NmT S i x) : TgOk S (.Name x pos) (.nm i) :=
  ⟨gName i, fun X hX => n.pg hX, fun v d σ H Q δ δ2 r h k => k [i] [v] [d] rfl (.cons (F := []) r .nil) h⟩
inductive TgsOk (S : Sig) : List Expr → List Nat → Prop
  | nil : TgsOk S [] []
  | cons {i : Nat} {x : Str} {pos : Pos} {es : List Expr} {is : List Nat} (n : NmT S i x) (t : TgsOk S es is) (hs : ∀ env, (assignEach (.Name x pos :: es) env).map (·.2) = assign (.Name x pos) env :: (assignEach es env).map (·.2)) : TgsOk S (.Name x pos :: es) (i :: is)
def gNames : List Nat → TGs
  | [] => gNil
  | i :: is => gCons (gName i) (gNames is)
theorem TgsOk.pgs {X : Cx} : ∀ {es : List Expr} {is : List Nat}, TgsOk S es is → Fits S X → PGs X es (gNames is)
  | _, _, .nil, _ => pgs_nil
  | _, _, .cons n t hs, h => pgs_cons (n.pg h) (t.pgs h) (hs _)
theorem gNames_run {Q : L2.St → Hp → Prop} {H : Hp} : ∀ {is : List Nat} {vs : List V} {σ : L2.St}, vs.length = is.length → Q (setsV is vs σ) H → gNames is vs σ H Q
  | [], [], _, _, q => ⟨rfl, q⟩
  | i :: is, v :: vs, σ, h, q => ⟨v, vs, rfl, gNames_run (is := is) (by simpa using h) q⟩
  | [], _ :: _, _, h, _ => by cases h
  | _ :: _, [], _, h, _ => by cases h
theorem setsD_len : ∀ {is : List Nat} {ds : List D} {δ δ2 : DEnv}, setsD is ds δ = some δ2 → ds.length = is.length
  | [], [], _, _, _ => rfl
  | i :: is, d :: ds, δ, δ2, h => by
    unfold setsD at h
    split at h
    · rw [List.length_cons, List.length_cons, setsD_len h]
    · cases h
  | [], _ :: _, _, _, h => by cases h
  | _ :: _, [], _, _, h => by cases h
theorem tg_tup {es : List Expr} {is : List Nat} {k : Nat} {pos : Pos} (t : TgsOk S es is) (hn : ∀ env, (assignEach es env).length = is.length) (hst : ∀ env, (assignEach es env).findIdx? (·.1) = none) : TgOk S (.Tuple es k pos) (.tup is) :=
  ⟨L2.gTup S.K is.length (gNames is), fun X hX => (by have := pg_tup (X := X) (k := k) (pos := pos) (n := is.length) hX.calm (t.pgs hX) (hn _) (hst _); rw [hX.K] at this; exact this), fun v d σ H Q δ δ2 r h q => by
    cases d with
    | tuple ds =>
      obtain ⟨a, vs, rfl, hp, s⟩ := r.iTup
      have hl : vs.length = is.length := s.length.trans (setsD_len h)
      exact ⟨a, vs, rfl, hp, hl, gNames_run hl (q is vs ds rfl s h)⟩
    | _ => cases h⟩
/-! ### walks -/
structure ItOk (K : PySem.W.Frag) (J : It) (items : List D) (G : Hp → Prop) : Prop where
  go : ∀ i H, i < items.length → G H → J.go i H
  stop : ∀ H, G H → J.stop items.length H
  yld : ∀ i H x H', i < items.length → G H → J.yld i H x H' → ∃ d, items[i]? = some d ∧ NewV K H x d H' []
/-- what keeps the walk going: its own objects and the slots of L stand -/
def Stays (G : Hp → Prop) (Fr : List Addr) (L : List Nat) (Fs : FT) : Prop := ∀ H1 H2 B, G H1 → Keep B H1 H2 → (∀ a, B a → a ∉ Fr ∧ ∀ l ∈ L, a ∉ Fs l) → G H2
def tBI (S : Sig) (tg iter : Expr) : TI := fun σ H R => ∃ wi, (∀ X, Fits S X → PI X tg iter wi) ∧ wi σ H R
theorem pi_tB {X : Cx} {tg iter : Expr} (h : Fits S X) : PI X tg iter (tBI S tg iter) := ⟨fun pins s σ H R I ⟨wi, hw, q⟩ => (hw X h).run pins s σ H R I q⟩
def DI (S : Sig) (tg iter : Expr) (L M : List Nat) (f : EM (List D)) : Prop :=
  ∀ (σ : L2.St) (H : Hp) (δ : DEnv) (Fs : FT) (R : It → Hp → Prop) (r : Out (List D)), EnvR S.K H σ δ Fs → Sep Fs [] → f δ = some r →
    (match r with
      | .ok items δ' => ∀ J H' Fs' Fr G, Post S.K M H δ Fs σ H' δ' Fs' Fr → ItOk S.K J items G → G H' → Stays G Fr L Fs' → R J H'
      | .ex x => XOk S H Fs x) → tBI S tg iter σ H R
/-- the items of a list, of a tuple, of a text -/
@[simp] def itemsD : D → Option (List D)
  | .list ds => if imms ds = true then some ds else none
  | .tuple ds => if imms ds = true then some ds else none
  | .str z => some (z.cps.toList.map fun c => .str ⟨#[c]⟩)
  | _ => none
@[simp] def cItems (f : EM D) : EM (List D) := EM.bind f fun d δ => match itemsD d with
  | some ds => some (.ok ds δ)
  | none => none
theorem it_list {K : PySem.W.Frag} {a : Addr} {vs : List V} {ds : List D} {G : Hp → Prop} (h : ∀ H, G H → SqL K H a vs ∧ Reps K H vs ds []) : ItOk K (Itl K a) ds G := by
  refine ⟨fun i H hi g => ?_, fun H g => ?_, fun i H x H' hi g y => ?_⟩
  · have hl := (h H g).2.length
    exact ⟨vs, vs[i], (h H g).1, by simp [show i < vs.length by omega]⟩
  · exact ⟨vs, (h H g).1, by rw [(h H g).2.length]; exact Nat.le_refl _⟩
  · obtain ⟨rfl, hx⟩ := y
    obtain ⟨d, F, h1, h2, h3⟩ := (h _ g).2.getV (hx vs (h _ g).1)
    have e : F = [] := List.eq_nil_iff_forall_not_mem.mpr fun a m => (nomatch h3 a m)
    subst e
    exact ⟨d, h1, .same h2⟩
theorem it_tup {K : PySem.W.Frag} {a : Addr} {vs : List V} {ds : List D} {G : Hp → Prop} (h : ∀ H, G H → SqT K H a vs ∧ Reps K H vs ds []) : ItOk K (Itt K a) ds G := by
  refine ⟨fun i H hi g => ?_, fun H g => ?_, fun i H x H' hi g y => ?_⟩
  · have hl := (h H g).2.length
    exact ⟨vs, vs[i], (h H g).1, by simp [show i < vs.length by omega]⟩
  · exact ⟨vs, (h H g).1, by rw [(h H g).2.length]; exact Nat.le_refl _⟩
  · obtain ⟨rfl, hx⟩ := y
    obtain ⟨d, F, h1, h2, h3⟩ := (h _ g).2.getV (hx vs (h _ g).1)
    have e : F = [] := List.eq_nil_iff_forall_not_mem.mpr fun a m => (nomatch h3 a m)
    subst e
    exact ⟨d, h1, .same h2⟩
theorem it_str {K : PySem.W.Frag} {z : Str} : ItOk K (Its z) (z.cps.toList.map fun c => PyData.str ⟨#[c]⟩) fun _ => True := by
  refine ⟨fun i H hi _ => by show i < z.cps.size; simpa using hi, fun H _ => by show z.cps.size ≤ _; simp, fun i H x H' hi _ y => ?_⟩
  obtain ⟨rfl, c, hc, rfl⟩ := y
  refine ⟨.str ⟨#[c]⟩, ?_, .same (.str _)⟩
  rw [List.getElem?_map]
  rw [Array.getElem?_toList, hc]
  rfl
theorem di_seq {tg e : Expr} {κ : Kd} {M : List Nat} {f : EM D} (h : DE S e κ M f) : DI S tg e (within κ) M (cItems f) := fun σ H δ Fs R r E s hf k => by
  rcases bind_some hf with ⟨d, δ1, h1, h2⟩ | ⟨x, h1, rfl⟩
  · cases e2 : itemsD d with
    | none => rw [e2] at h2; cases h2
    | some ds =>
      rw [e2] at h2
      cases h2
      have seq : ∀ {H1 : Hp} {Fs1 : FT} {F : List Addr} {v : V}, Post S.K M H δ Fs σ H1 δ1 Fs1 F → Opn S.K H1 σ δ1 Fs1 F κ v d → ∃ G, Rep S.K H1 v d G ∧ ∀ a ∈ G, a ∈ F ∨ ∃ l ∈ within κ, a ∈ Fs1 l := fun {H1 Fs1 F v} p o => by
        by_cases hκ : κ = .own
        · subst hκ; exact ⟨F, o, fun a m => .inl m⟩
        · obtain ⟨_, G, r, hw⟩ := o.within p.env hκ
          exact ⟨G, r, fun a m => .inr (hw a m)⟩
      unfold itemsD at e2
      split at e2
      · split at e2
        · rename_i hi
          cases e2
          refine ⟨iList S.K (tB S e), fun X hX => (by rw [← hX.K]; exact pi_list (pe_tB hX)), h σ H δ Fs _ _ E s h1 fun v H1 Fs1 F p o => ?_⟩
          obtain ⟨G, rp, hw⟩ := seq p o
          obtain ⟨a, vs, G', rfl, hp, rs, rfl⟩ := rp.iLst
          refine ⟨a, rfl, ⟨vs, sqL_of hp⟩, k _ H1 Fs1 F (fun H => H a = some (.lst vs) ∧ Reps S.K H vs _ []) p (it_list fun H g => ⟨sqL_of g.1, g.2⟩) ⟨hp, rs.imm' hi⟩ fun H2 H3 B g kp hB => ⟨kp a _ g.1 (.inl fun b => ?_), g.2.keep kp fun _ m => (nomatch m)⟩⟩
          rcases hw a List.mem_cons_self with m | ⟨l, hl, m⟩
          · exact (hB a b).1 m
          · exact (hB a b).2 l hl m
        · cases e2
      · split at e2
        · rename_i hi
          cases e2
          refine ⟨iTup S.K (tB S e), fun X hX => (by rw [← hX.K]; exact pi_tup (pe_tB hX)), h σ H δ Fs _ _ E s h1 fun v H1 Fs1 F p o => ?_⟩
          obtain ⟨G, rp, hw⟩ := seq p o
          obtain ⟨a, vs, rfl, hp, rs⟩ := rp.iTup
          exact ⟨a, rfl, ⟨vs, hp⟩, k _ H1 Fs1 F (fun H => SqT S.K H a vs ∧ Reps S.K H vs _ []) p (it_tup fun H g => g) ⟨hp, rs.imm' hi⟩ fun H2 H3 B g kp hB => ⟨kp.sqT g.1, g.2.keep kp fun _ m => (nomatch m)⟩⟩
        · cases e2
      · cases e2
        refine ⟨iStr (tB S e), fun X hX => pi_str (pe_tB hX), h σ H δ Fs _ _ E s h1 fun v H1 Fs1 F p o => ?_⟩
        obtain ⟨G, rp, hw⟩ := seq p o
        exact ⟨_, rp.iStr, k _ H1 Fs1 F (fun _ => True) p it_str trivial fun _ _ _ _ _ _ => trivial⟩
      · cases e2
  · exact ⟨iStr (tB S e), fun X hX => pi_str (pe_tB hX), h σ H δ Fs _ _ E s h1 k⟩
/-- range(b), range(a, b) -/
def rangeD (lo : Int) (n : Nat) : List D := (List.range n).map fun (i : Nat) => PyData.int (lo + (i : Int))
@[simp] def gRng1 : List D → Option (List D)
  | [.int j] => if -1000000000 ≤ j ∧ j ≤ 1000000000 then some (rangeD 0 j.toNat) else none
  | _ => none
@[simp] def gRng2 : List D → Option (List D)
  | [.int i, .int j] => if (-1000000000 ≤ i ∧ i ≤ 1000000000) ∧ -1000000000 ≤ j ∧ j ≤ 1000000000 then some (rangeD i (j - i).toNat) else none
  | _ => none
@[simp] def cRng (g : List D → Option (List D)) (f : EM (List D)) : EM (List D) := EM.bind f fun ds δ => match g ds with
  | some xs => some (.ok xs δ)
  | none => none
theorem it_range {K : PySem.W.Frag} {lo : Int} {n : Nat} : ItOk K (Itr lo n) (rangeD lo n) fun _ => True := by
  have hl : (rangeD lo n).length = n := by simp [rangeD]
  refine ⟨fun i H hi _ => by rw [hl] at hi; exact hi, fun H _ => by show n ≤ _; rw [hl]; exact Nat.le_refl _, fun i H x H' hi _ y => ?_⟩
  obtain ⟨rfl, rfl⟩ := y
  rw [hl] at hi
  exact ⟨.int (lo + i), by simp [rangeD, hi], .same (.int _)⟩
section
variable {a b : Expr} {κs : List Kd} {M : List Nat} {f : EM (List D)} {tg : Expr} {p pos : Pos}
theorem di_rng1 (n : BtS S "range") (hA : DA S [a] κs M f) (hp : Plain [a]) : DI S tg (.Call (.Name "range" p) [a] [] pos) [] M (cRng gRng1 f) := fun σ H δ Fs R r E s hf k => by
  have g : ∀ X, Fits S X → PI X tg (.Call (.Name "range" p) [a] [] pos) (iRng1 (tBA S [a])) := fun X hX => pi_range1 (n.g hX) (n.m hX) (pa_tB hX hp) (hp.1 _)
  refine ⟨_, g, ?_⟩
  rcases bind_some hf with ⟨ds, δ1, h1, h2⟩ | ⟨x, h1, rfl⟩
  · refine hA σ H δ Fs _ _ E s h1 fun vs H1 Fs1 Frs p o => ?_
    obtain ⟨F, rs⟩ := o.reps p.env
    cases e : gRng1 ds with
    | none => rw [e] at h2; cases h2
    | some xs =>
      rw [e] at h2
      cases h2
      unfold gRng1 at e
      split at e
      · split at e
        · rename_i hb
          cases e
          obtain ⟨v, _, rfl, r1⟩ := rs.i1
          exact ⟨_, by rw [r1.iInt], by omega, by omega, k _ H1 Fs1 [] (fun _ => True) p.dropR it_range trivial fun _ _ _ _ _ _ => trivial⟩
        · cases e
      · cases e
  · exact hA σ H δ Fs _ _ E s h1 k
theorem di_rng2 (n : BtS S "range") (hA : DA S [a, b] κs M f) (hp : Plain [a, b]) : DI S tg (.Call (.Name "range" p) [a, b] [] pos) [] M (cRng gRng2 f) := fun σ H δ Fs R r E s hf k => by
  have e1 : ∀ env, starEach [a, b] env = [(false, eval a env), (false, eval b env)] := fun env => by rw [hp.1, hp.2.1]; rfl
  have g : ∀ X, Fits S X → PI X tg (.Call (.Name "range" p) [a, b] [] pos) (iRng2 (tBA S [a, b])) := fun X hX => pi_range2 (n.g hX) (n.m hX) (pa_tB hX hp) (e1 _) (hp.2.1 _)
  refine ⟨_, g, ?_⟩
  rcases bind_some hf with ⟨ds, δ1, h1, h2⟩ | ⟨x, h1, rfl⟩
  · refine hA σ H δ Fs _ _ E s h1 fun vs H1 Fs1 Frs p o => ?_
    obtain ⟨F, rs⟩ := o.reps p.env
    cases e : gRng2 ds with
    | none => rw [e] at h2; cases h2
    | some xs =>
      rw [e] at h2
      cases h2
      unfold gRng2 at e
      split at e
      · split at e
        · rename_i hb
          cases e
          obtain ⟨v, w, _, _, rfl, r1, r2⟩ := rs.i2
          exact ⟨_, _, by rw [r1.iInt, r2.iInt], by omega, k _ H1 Fs1 [] (fun _ => True) p.dropR it_range trivial fun _ _ _ _ _ _ => trivial⟩
        · cases e
      · cases e
  · exact hA σ H δ Fs _ _ E s h1 k
end
/-! ### comprehensions -/
@[simp] def wipeD : List Nat → DEnv → DEnv
  | [], δ => δ
  | v :: vs, δ => (wipeD vs δ).set v none
/-- the places of vs as they were -/
@[simp] def backV (δ0 : DEnv) : List Nat → DEnv → DEnv
  | [], δ => δ
  | v :: vs, δ => (backV δ0 vs δ).set v ((δ0[v]?).join)
@[simp] def immAt (δ : DEnv) (v : Nat) : Bool := match δ[v]? with
  | some (some d) => imm d
  | _ => true
@[simp] def compL (vs : List Nat) (tg : Tg) (cond : EM Bool) (elt : EM D) : List D → EM (List D)
  | [] => fun δ => some (.ok [] δ)
  | d :: r => fun δ => match bindT tg d (wipeD vs δ) with
    | none => none
    | some δ1 => EM.bind cond (fun b => if b = true then EM.bind elt fun y => EM.bind (compL vs tg cond elt r) fun ys δ2 => some (.ok (y :: ys) δ2) else compL vs tg cond elt r) δ1
@[simp] def cComp (vs : List Nat) (tg : Tg) (f : EM (List D)) (cond : EM Bool) (elt : EM D) : EM D := EM.bind f fun items δ =>
  if (vs.all (immAt δ)) = true ∧ items.length ≤ 1000000 then
    match compL vs tg cond elt items δ with
    | some (.ok ys δ2) => some (.ok (.list ys) (backV δ vs δ2))
    | _ => none
  else none
@[simp] def cYes : EM Bool := fun δ => some (.ok true δ)
theorem wipeD_len (δ : DEnv) : ∀ vs : List Nat, (wipeD vs δ).length = δ.length
  | [] => rfl
  | v :: vs => by unfold wipeD; rw [List.length_set, wipeD_len δ vs]
theorem backV_len (δ0 δ : DEnv) : ∀ vs : List Nat, (backV δ0 vs δ).length = δ.length
  | [] => rfl
  | v :: vs => by unfold backV; rw [List.length_set, backV_len δ0 δ vs]
theorem wipeD_get {δ : DEnv} {i : Nat} : ∀ {vs : List Nat}, i ∉ vs → (wipeD vs δ)[i]? = δ[i]?
  | [], _ => rfl
  | v :: vs, h => by
    unfold wipeD
    rw [List.getElem?_set_ne (fun e => h (by simp [e])), wipeD_get fun m => h (List.mem_cons_of_mem _ m)]
theorem wipeD_in {δ : DEnv} {i : Nat} : ∀ {vs : List Nat}, i ∈ vs → ∀ d, (wipeD vs δ)[i]? ≠ some (some d)
  | [], h, _ => by cases h
  | v :: vs, h, d => by
    unfold wipeD
    by_cases q : v = i
    · subst q
      by_cases hv : v < (wipeD vs δ).length
      · rw [List.getElem?_set_self hv]; exact fun z => by cases z
      · rw [List.getElem?_eq_none (by simpa using hv)]; exact fun z => by cases z
    · rw [List.getElem?_set_ne q]
      exact wipeD_in (by rcases List.mem_cons.mp h with e | m; exact absurd e.symm q; exact m) d
theorem backV_get {δ0 δ : DEnv} {i : Nat} : ∀ {vs : List Nat}, i ∉ vs → (backV δ0 vs δ)[i]? = δ[i]?
  | [], _ => rfl
  | v :: vs, h => by
    unfold backV
    rw [List.getElem?_set_ne (fun e => h (by simp [e])), backV_get fun m => h (List.mem_cons_of_mem _ m)]
theorem backV_in {δ0 δ : DEnv} {i : Nat} (hl : i < δ.length) : ∀ {vs : List Nat}, i ∈ vs → (backV δ0 vs δ)[i]? = some ((δ0[i]?).join)
  | [], h => by cases h
  | v :: vs, h => by
    unfold backV
    by_cases q : v = i
    · subst q
      rw [List.getElem?_set_self (by rw [backV_len]; exact hl)]
    · rw [List.getElem?_set_ne q]
      exact backV_in hl (by rcases List.mem_cons.mp h with e | m; exact absurd e.symm q; exact m)
theorem wipe_get {σ : L2.St} {i : Nat} : ∀ {vs : List Nat}, i ∉ vs → (wipe σ vs)[i]? = σ[i]?
  | [], _ => rfl
  | v :: vs, h => by
    unfold wipe
    rw [List.getElem?_set_ne (fun e => h (by simp [e])), wipe_get fun m => h (List.mem_cons_of_mem _ m)]
theorem wipe_set {σ : L2.St} {i : Nat} {x : Option V} : ∀ {vs : List Nat}, i ∈ vs → wipe (σ.set i x) vs = wipe σ vs
  | [], h => by cases h
  | v :: vs, h => by
    unfold wipe
    by_cases hm : i ∈ vs
    · rw [wipe_set hm]
    · have e : i = v := by rcases List.mem_cons.mp h with e | m; exact e; exact absurd m hm
      subst e
      have comm : ∀ {ws : List Nat}, i ∉ ws → wipe (σ.set i x) ws = (wipe σ ws).set i x := fun {ws} => by
        induction ws with
        | nil => intro _; rfl
        | cons u us ih =>
          intro hn
          unfold wipe
          rw [ih fun m => hn (List.mem_cons_of_mem _ m), List.set_comm _ _ (fun e => hn (by simp [e]))]
      rw [comm hm, List.set_set]
theorem wipe_setsV : ∀ {is : List Nat} {vs : List V} {σ : L2.St} {ws : List Nat}, (∀ i ∈ is, i ∈ ws) → wipe (setsV is vs σ) ws = wipe σ ws
  | [], _, _, _, _ => by unfold setsV; rfl
  | _ :: _, [], _, _, _ => by unfold setsV; rfl
  | i :: is, v :: vs, σ, ws, h => by
    unfold setsV
    rw [wipe_setsV fun j m => h j (List.mem_cons_of_mem _ m), wipe_set (h i List.mem_cons_self)]
end DL
/-! DL9: comprehensions. -/
namespace DL
open PySem PySem.Spec PyProof.Rows L2
variable {S : Sig}
def subS (S : Sig) (scope : Scope) : Sig := { S with sc := relS scope S.sc, fn := fun x => scope.names.lookup x == some .cell, E := E0 }
theorem Fits.sub {X : Cx} (h : Fits S X) {scope : Scope} (s : Shared) (H : Hp) (C : Addr) (cl : List (Str × Addr)) (fp : List Addr) : Fits (subS S scope) (X.blk s H scope (compEnvC scope cl C X.env) fp) :=
  ⟨h.prog, h.w, h.K, h.mg, h.base, h.N, by show relS scope X.env.scope = relS scope S.sc; rw [h.sc], fun x e => e, h.room, h.calm, takes0, PassesOwn.never⟩
/-- the slots of vs forgotten -/
theorem Post.wipe {K : PySem.W.Frag} {M : List Nat} {H H1 : Hp} {δ δ1 : DEnv} {Fs Fs1 : FT} {σ1 : L2.St} {Fr : List Addr} (p : Post K M H δ Fs σ1 H1 δ1 Fs1 Fr) (vs : List Nat) : Post K (M ++ vs) H δ Fs (L2.wipe σ1 vs) H1 (wipeD vs δ1) (wipeF vs Fs1) Fr := by
  refine ⟨⟨?_, fun i d e => ?_, fun i h => ?_⟩, ⟨p.sep.ndr, fun i => ?_, fun i j n a m => ?_, fun i a m => ?_⟩, p.trk, fun i hi a m => ?_, fun a m => (p.subr a m).imp (fun z => z.mono fun i m => List.mem_append_left _ m) id, p.keep.imp fun a _ z => z.mono fun i m => List.mem_append_left _ m, fun i n => ?_⟩
  · rw [L2.wipe_length, wipeD_len]; exact p.env.len
  · by_cases hm : i ∈ vs
    · exact absurd e (wipeD_in hm d)
    · rw [wipeD_get hm] at e
      rw [wipe_get hm, wipeF_out hm]
      exact p.env.at i d e
  · by_cases hm : i ∈ vs
    · exact wipeF_in hm
    · rw [wipeF_out hm]
      exact p.env.no i fun d e => h d (by rw [wipeD_get hm]; exact e)
  · by_cases hm : i ∈ vs
    · rw [wipeF_in hm]; exact List.nodup_nil
    · rw [wipeF_out hm]; exact p.sep.nds i
  · by_cases hm : i ∈ vs
    · rw [wipeF_in hm] at m; cases m
    · rw [wipeF_out hm] at m
      by_cases hm' : j ∈ vs
      · rw [wipeF_in hm']; exact fun z => (nomatch z)
      · rw [wipeF_out hm']; exact p.sep.dis i j n a m
  · by_cases hm : i ∈ vs
    · rw [wipeF_in hm]; exact fun z => (nomatch z)
    · rw [wipeF_out hm]; exact p.sep.dir i a m
  · by_cases hm : i ∈ vs
    · rw [wipeF_in hm] at m; cases m
    · rw [wipeF_out hm] at m
      have hi' : i ∈ M := (List.mem_append.mp hi).resolve_right hm
      exact (p.sub i hi' a m).imp (fun z => z.mono fun i m => List.mem_append_left _ m) id
  · have n1 : i ∉ M := fun z => n (List.mem_append_left _ z)
    have n2 : i ∉ vs := fun z => n (List.mem_append_right _ z)
    exact ⟨(wipeF_out n2).trans (p.same i n1).1, (wipeD_get n2).trans (p.same i n1).2⟩
/-- a new owned object beside the others -/
theorem Post.newO {K : PySem.W.Frag} {M : List Nat} {H H1 : Hp} {δ δ1 : DEnv} {Fs Fs1 : FT} {σ : L2.St} {F : List Addr} {q : Addr} {o : HO} (p : Post K M H δ Fs σ H1 δ1 Fs1 F) (hq : H1 q = none) (ho : mutO o = true) : Post K M H δ Fs σ (upd H1 q o) δ1 Fs1 (F ++ [q]) := by
  have p2 := p.newT (o := o) hq
  have nq : ∀ a, (∃ o, H1 a = some o ∧ mutO o = true) → a ≠ q := fun a ⟨o, e, _⟩ z => by rw [z, hq] at e; cases e
  refine ⟨p2.env, ⟨List.nodup_append.mpr ⟨p.sep.ndr, by simp, fun a m b mb => ?_⟩, p2.sep.nds, p2.sep.dis, fun i a m => ?_⟩, fun a m => ?_, p2.sub, fun a m => ?_, p2.keep, p2.same⟩
  · have e : b = q := by simpa using mb
    subst e
    exact nq a (p.trk a m)
  · rcases List.mem_append.mp m with m | m
    · exact p.sep.dir i a m
    · have e : a = q := by simpa using m
      subst e
      exact fun z => nq a (p.env.trk z) rfl
  · rcases List.mem_append.mp m with m | m
    · exact p2.trk a m
    · have e : a = q := by simpa using m
      subst e
      exact ⟨_, upd_same, ho⟩
  · rcases List.mem_append.mp m with m | m
    · exact p.subr a m
    · have e : a = q := by simpa using m
      subst e
      exact p.old hq
/-- an owned temporary changes -/
theorem Post.updR {K : PySem.W.Frag} {M : List Nat} {H H1 : Hp} {δ δ1 : DEnv} {Fs Fs1 : FT} {σ : L2.St} {F : List Addr} {q : Addr} {o : HO} (p : Post K M H δ Fs σ H1 δ1 Fs1 F) (hq : q ∈ F) (ho : mutO o = true) : Post K M H δ Fs σ (upd H1 q o) δ1 Fs1 F := by
  have k1 : Keep (fun a => a = q) H1 (upd H1 q o) := .upd rfl fun u e => by
    obtain ⟨u', e', h⟩ := p.trk q hq
    rw [e] at e'; cases e'; exact h
  refine ⟨p.env.keep k1 fun i a m e => ?_, p.sep, fun a m => ?_, p.sub, p.subr, fun a u e c => ?_, p.same⟩
  · subst e; exact p.sep.dir i a hq m
  · by_cases e : a = q
    · subst e; exact ⟨_, upd_same, ho⟩
    · rw [upd_ne e]; exact p.trk a m
  · have e1 := p.keep a u e c
    by_cases h : a = q
    · subst h
      exfalso
      rcases p.subr a hq with z | z
      · rcases c with c | c
        · exact c z
        · obtain ⟨u', e', h⟩ := p.trk a hq
          rw [e1] at e'; cases e'
          rw [c] at h; cases h
      · rw [e] at z; cases z
    · rw [upd_ne h]; exact e1
/-- tests of a comprehension: none or one -/
def tBTs (S : Sig) (ifs : List Expr) : TT := fun σ H Q => ∃ t, (∀ X, Fits S X → PTs X ifs t) ∧ t σ H Q
def DTs (S : Sig) (ifs : List Expr) (M : List Nat) (f : EM Bool) : Prop :=
  ∀ (σ : L2.St) (H : Hp) (δ : DEnv) (Fs : FT) (Q : Bool → Hp → Prop) (b : Bool) (δ' : DEnv), EnvR S.K H σ δ Fs → Sep Fs [] → f δ = some (.ok b δ') →
    (∀ H' Fs', Post S.K M H δ Fs σ H' δ' Fs' [] → Q b H') → tBTs S ifs σ H Q
theorem pts_tB {X : Cx} {ifs : List Expr} (h : Fits S X) : PTs X ifs (tBTs S ifs) := ⟨fun pins s σ H Q I ⟨t, ht, q⟩ => (ht X h).run pins s σ H Q I q⟩
theorem dts_nil : DTs S [] [] cYes := fun σ H δ Fs Q b δ' E s hf k => by
  cases hf
  exact ⟨_, fun X _ => pts_nil, k H Fs (Post.refl E s)⟩
theorem dts_one {c : Expr} {M : List Nat} {f : EM Bool} (h : DT S c M f) : DTs S [c] M f := fun σ H δ Fs Q b δ' E s hf k => let ⟨t, ht, q⟩ := h σ H δ Fs Q _ E s hf k; ⟨t, fun X hX => pts_one (ht X hX), q⟩
theorem immAt_nil {K : PySem.W.Frag} {H : Hp} {σ : L2.St} {δ : DEnv} {Fs : FT} {v : Nat} (E : EnvR K H σ δ Fs) (h : immAt δ v = true) : Fs v = [] := by
  unfold immAt at h
  split at h
  · rename_i d e
    obtain ⟨w, _, r⟩ := E.at v d e
    exact r.imm h
  · rename_i hn
    exact E.no v fun d e => hn d e
theorem setsD_length : ∀ {is : List Nat} {ds : List D} {δ δ2 : DEnv}, setsD is ds δ = some δ2 → δ2.length = δ.length
  | [], [], _, _, h => by cases h; rfl
  | i :: is, d :: ds, δ, δ2, h => by
    unfold setsD at h
    split at h
    · rw [setsD_length h, List.length_set]
    · cases h
  | [], _ :: _, _, _, h => by cases h
  | _ :: _, [], _, _, h => by cases h
theorem bindT_ok {t : Tg} {d : D} {δ δ2 : DEnv} (h : bindT t d δ = some δ2) : ∃ ds, setsD t.slots ds δ = some δ2 := by
  cases t with
  | nm i => exact ⟨_, h⟩
  | tup is => cases d with
    | tuple ds => exact ⟨ds, h⟩
    | _ => cases h
theorem wipe_in {σ : L2.St} {i : Nat} (hl : i < σ.length) : ∀ {vs : List Nat}, i ∈ vs → (L2.wipe σ vs)[i]? = some none
  | [], h => by cases h
  | v :: vs, h => by
    show ((L2.wipe σ vs).set v none)[i]? = some none
    by_cases q : v = i
    · subst q
      rw [List.getElem?_set_self (by rw [L2.wipe_length]; exact hl)]
    · rw [List.getElem?_set_ne q]
      exact wipe_in hl (by rcases List.mem_cons.mp h with e | m; exact absurd e.symm q; exact m)
theorem wipe_wipe (σ : L2.St) (vs : List Nat) : L2.wipe (L2.wipe σ vs) vs = L2.wipe σ vs := by
  apply List.ext_getElem?
  intro i
  by_cases hm : i ∈ vs
  · by_cases hl : i < σ.length
    · rw [wipe_in (by rw [L2.wipe_length]; exact hl) hm, wipe_in hl hm]
    · rw [List.getElem?_eq_none (by rw [L2.wipe_length, L2.wipe_length]; omega), List.getElem?_eq_none (by rw [L2.wipe_length]; omega)]
  · rw [wipe_get hm]
theorem comp_read {elt tg iter : Expr} {ifs : List Expr} {scope : Scope} {vs : List Nat} {L M Mc Me : List Nat} {f : EM (List D)} {t : Tg} {cond : EM Bool} {ef : EM D} {g : TG}
    (tgq : ∀ v d σ H (Q : L2.St → Hp → Prop) δ δ2, Rep S.K H v d [] → bindT t d δ = some δ2 → (∀ is vs ds, t.slots = is → Reps S.K H vs ds [] → setsD is ds δ = some δ2 → Q (setsV is vs σ) H) → g v σ H Q)
    (hI : DI S tg iter L M f) (hts : ∀ i ∈ t.slots, i ∈ vs) (hc : DTs (subS S scope) ifs Mc cond) (he : DE (subS S scope) elt .own Me ef)
    (hL : ∀ l ∈ L, l ∉ vs ∧ l ∉ Mc ∧ l ∉ Me) (σ : L2.St) (H : Hp) (δ : DEnv) (Fs : FT) (Q : VK) (r : Out D) (E : EnvR S.K H σ δ Fs) (s : Sep Fs [])
    (k : match r with
      | .ok d δ' => ∀ v H' Fs' Fr, Post S.K (M ++ (Mc ++ Me)) H δ Fs σ H' δ' Fs' Fr → Opn S.K H' σ δ' Fs' Fr .own v d → Q v H'
      | .ex x => XOk S H Fs x) (hf : cComp vs t f cond ef δ = some r) : tLc (tBI S tg iter) g (tBTs (subS S scope) ifs) (tB (subS S scope) elt) vs σ H Q := by
  show tBI S tg iter σ H fun J H1 => ∀ D, H1 D = none → ∃ W : Nat → Nat → Hp → Prop, (∃ m, W 0 m (upd H1 D (.lst []))) ∧ ∀ i m H, W i m H →
    (J.stop i H ∧ Q (.ref D) H) ∨ (J.go i H ∧ ∃ Nx : Hp → Prop, (∀ H', Nx H' → ∃ m', m' < m ∧ W (i + 1) m' H') ∧ ∀ x H', J.yld i H x H' → g x (L2.wipe σ vs) H' fun σ2 H2 => L2.wipe σ2 vs = L2.wipe σ vs ∧ tBTs (subS S scope) ifs σ2 H2 fun b H3 =>
      if b = true then tB (subS S scope) elt σ2 H3 fun y H4 => ∃ acc, H4 D = some (.lst acc) ∧ acc.length < sizeLine ∧ Nx (upd H4 D (.lst (acc ++ [y]))) else Nx H3)
  rcases bind_some hf with ⟨items, δ1, h1, h2⟩ | ⟨x, h1, rfl⟩
  rotate_left
  · exact hI σ H δ Fs _ _ E s h1 k
  by_cases hcond : (vs.all (immAt δ1)) = true ∧ items.length ≤ 1000000
  rotate_left
  · rw [if_neg hcond] at h2; cases h2
  rw [if_pos hcond] at h2
  cases hcl : compL vs t cond ef items δ1 with
  | none => rw [hcl] at h2; cases h2
  | some out =>
    cases out with
    | ex x => rw [hcl] at h2; cases h2
    | ok ysF δF =>
      rw [hcl] at h2
      cases h2
      refine hI σ H δ Fs _ _ E s h1 fun J H1 Fs1 Fr G p ito g0 stays dd hdd => ?_
      have vnil : ∀ v ∈ vs, Fs1 v = [] := fun v m => immAt_nil p.env (List.all_eq_true.mp hcond.1 v m)
      have pw : Post S.K (M ++ vs) H δ Fs (L2.wipe σ vs) H1 (wipeD vs δ1) (wipeF vs Fs1) Fr := p.wipe vs
      have eF : wipeF vs Fs1 = Fs1 := by
        funext i
        by_cases m : i ∈ vs
        · rw [wipeF_in m, vnil i m]
        · rw [wipeF_out m]
      rw [eF] at pw
      let Mt := M ++ (vs ++ (Mc ++ Me))
      have ddn : ∀ a, H1 a ≠ none → a ≠ dd := fun a h e => h (by rw [e]; exact hdd)
      refine ⟨fun i m H' => m = items.length - i ∧ i ≤ items.length ∧ ∃ δ' Fs' vacc dacc F ys, Post S.K Mt H δ Fs (L2.wipe σ vs) H' (wipeD vs δ') Fs' (Fr ++ [dd] ++ F) ∧ H' dd = some (.lst vacc) ∧ Reps S.K H' vacc dacc F ∧ dacc.length ≤ i ∧
          compL vs t cond ef (items.drop i) δ' = some (.ok ys δF) ∧ dacc ++ ys = ysF ∧ G H' ∧ Keep (fun _ => True) H1 H' ∧ (∀ l ∈ L, Fs' l = Fs1 l) ∧ (∀ v ∈ vs, Fs' v = []) ∧ δ'.length = δ1.length, ⟨items.length, ?_⟩, ?_⟩
      · refine ⟨by simp, Nat.zero_le _, δ1, Fs1, [], [], [], ysF, ?_, upd_same, .nil, Nat.le_refl _, hcl, rfl, ?_, .new hdd, fun _ _ => rfl, vnil, rfl⟩
        · rw [List.append_nil]
          exact (pw.mono (M' := Mt) (fun i m => by
            rcases List.mem_append.mp m with m | m
            · exact List.mem_append_left _ m
            · exact List.mem_append_right _ (List.mem_append_left _ m))).newO hdd rfl
        · exact stays _ _ (fun _ => False) g0 (.new hdd) fun a b => b.elim
      · rintro i m H' ⟨rfl, hi, δ', Fs', vacc, dacc, F, ys, P, hD, hacc, hdl, hcomp, hys, hG, kp, hLs, hvn, hlen⟩
        by_cases hlt : i < items.length
        rotate_left
        · -- the end
          have ei : i = items.length := by omega
          subst ei
          rw [List.drop_length] at hcomp
          have hcomp : some (Out.ok ([] : List D) δ') = some (.ok ys δF) := hcomp
          cases hcomp
          rw [List.append_nil] at hys
          subst hys
          refine .inl ⟨ito.stop H' hG, ?_⟩
          have P2 : Post S.K Mt H δ Fs (L2.wipe σ vs) H' (wipeD vs δF) Fs' ([dd] ++ F) := ⟨P.env, (by rw [List.append_assoc] at P; exact P.sep.right), fun a m => P.trk a (by rw [List.append_assoc]; exact List.mem_append_right _ m), P.sub, fun a m => P.subr a (by rw [List.append_assoc]; exact List.mem_append_right _ m), P.keep, P.same⟩
          have inMt : ∀ a, InM Mt Fs a → InM (M ++ (Mc ++ Me)) Fs a := fun a ⟨j, hj, m⟩ => by
            rcases List.mem_append.mp hj with hj | hj
            · exact ⟨j, List.mem_append_left _ hj, m⟩
            · rcases List.mem_append.mp hj with hj | hj
              · by_cases hm : j ∈ M
                · exact ⟨j, List.mem_append_left _ hm, m⟩
                · rw [← (p.same j hm).1, vnil j hj] at m; cases m
              · exact ⟨j, List.mem_append_right _ hj, m⟩
          refine k (.ref dd) H' Fs' ([dd] ++ F) ⟨⟨?_, fun j dj e => ?_, fun j h => ?_⟩, P2.sep, P2.trk, fun j hj a m => ?_, fun a m => (P2.subr a m).imp (inMt a) id, P2.keep.imp fun a _ z => inMt a z, fun j hj => ?_⟩ (.lst hD hacc)
          · rw [backV_len]
            have := P.env.len
            rw [L2.wipe_length, wipeD_len] at this
            exact this
          · by_cases hm : j ∈ vs
            · have hjl : j < δF.length := by
                have h3 := (List.getElem?_eq_some_iff.mp e).1
                rwa [backV_len] at h3
              rw [backV_in hjl hm] at e
              have e2 : (δ1[j]?).join = some dj := Option.some.inj e
              have e3 : δ1[j]? = some (some dj) := by
                cases h : δ1[j]? with
                | none => rw [h] at e2; cases e2
                | some x => rw [h] at e2; exact congrArg some e2
              obtain ⟨v, hv, r⟩ := p.env.at j dj e3
              rw [vnil j hm] at r
              rw [hvn j hm]
              exact ⟨v, hv, r.keep kp fun _ m => (nomatch m)⟩
            · rw [backV_get hm] at e
              obtain ⟨v, hv, r⟩ := P.env.at j dj (by rw [wipeD_get hm]; exact e)
              rw [wipe_get hm] at hv
              exact ⟨v, hv, r⟩
          · by_cases hm : j ∈ vs
            · exact hvn j hm
            · exact P.env.no j fun d e => h d (by rw [backV_get hm]; rw [wipeD_get hm] at e; exact e)
          · have hj' : j ∈ Mt := by
              rcases List.mem_append.mp hj with h | h
              · exact List.mem_append_left _ h
              · exact List.mem_append_right _ (List.mem_append_right _ h)
            exact (P2.sub j hj' a m).imp (inMt a) id
          · have n1 : j ∉ M := fun z => hj (List.mem_append_left _ z)
            by_cases hm : j ∈ vs
            · refine ⟨by rw [hvn j hm, ← (p.same j n1).1, vnil j hm], ?_⟩
              rw [← (p.same j n1).2]
              by_cases hjl : j < δF.length
              · rw [backV_in hjl hm]
                rw [hlen] at hjl
                rw [List.getElem?_eq_getElem hjl]
                rfl
              · rw [List.getElem?_eq_none (by rw [backV_len]; omega), List.getElem?_eq_none (by omega)]
            · have n2 : j ∉ Mt := fun z => by
                rcases List.mem_append.mp z with z | z
                · exact n1 z
                · rcases List.mem_append.mp z with z | z
                  · exact hm z
                  · exact hj (List.mem_append_right _ z)
              refine ⟨(P.same j n2).1, ?_⟩
              rw [backV_get hm, ← (P.same j n2).2, wipeD_get hm]
        · -- a turn
          have hdrop : items.drop i = items[i] :: items.drop (i + 1) := List.drop_eq_getElem_cons hlt
          rw [hdrop] at hcomp
          unfold compL at hcomp
          cases hb : bindT t items[i] (wipeD vs δ') with
          | none => rw [hb] at hcomp; cases hcomp
          | some δb =>
            rw [hb] at hcomp
            simp only at hcomp
            rcases bind_some hcomp with ⟨b, δc, hc1, hc2⟩ | ⟨x, _, hx⟩
            rotate_left
            · cases hx
            -- what a turn leaves
            refine .inr ⟨ito.go i H' hlt hG, fun H'' => ∃ δ' Fs' vacc dacc F ys, Post S.K Mt H δ Fs (L2.wipe σ vs) H'' (wipeD vs δ') Fs' (Fr ++ [dd] ++ F) ∧ H'' dd = some (.lst vacc) ∧ Reps S.K H'' vacc dacc F ∧ dacc.length ≤ i + 1 ∧
              compL vs t cond ef (items.drop (i + 1)) δ' = some (.ok ys δF) ∧ dacc ++ ys = ysF ∧ G H'' ∧ Keep (fun _ => True) H1 H'' ∧ (∀ l ∈ L, Fs' l = Fs1 l) ∧ (∀ v ∈ vs, Fs' v = []) ∧ δ'.length = δ1.length, fun H'' hN => ?_, fun x Hy hy => ?_⟩
            · exact ⟨items.length - (i + 1), by omega, rfl, hlt, hN⟩
            obtain ⟨dx, hdx, nv⟩ := ito.yld i H' x Hy hlt hG hy
            have edx : items[i] = dx := by
              rw [List.getElem?_eq_getElem hlt] at hdx
              exact Option.some.inj hdx
            rw [edx] at hb
            -- the item's step keeps all
            have Py : Post S.K Mt H δ Fs (L2.wipe σ vs) Hy (wipeD vs δ') Fs' (Fr ++ [dd] ++ F) := by
              have p0 : Post S.K [] H' (wipeD vs δ') Fs' (L2.wipe σ vs) Hy (wipeD vs δ') Fs' [] := ⟨P.env.keep nv.keep fun _ _ _ h => h, P.sep0, fun _ m => (nomatch m), fun _ m => (nomatch m), fun _ m => (nomatch m), nv.keep.imp fun _ _ h => h.elim, fun _ _ => ⟨rfl, rfl⟩⟩
              have := P.comp p0
              rw [List.append_nil, List.append_nil] at this
              exact this
            have keepT : ∀ {B' : Addr → Prop} {Ha Hb : Hp}, Keep B' Ha Hb → (∀ a, B' a → a ∉ (Fr ++ [dd] ++ F)) → Ha dd = some (.lst vacc) ∧ Reps S.K Ha vacc dacc F → Hb dd = some (.lst vacc) ∧ Reps S.K Hb vacc dacc F := fun {B' Ha Hb} kk hn ⟨e1, e2⟩ =>
              ⟨kk dd _ e1 (.inl fun b => hn dd b (by simp)), e2.keep kk fun a m b => hn a b (by simp [m])⟩
            refine tgq x dx _ Hy _ _ _ nv.rep hb fun is vsx ds his rps hset => ?_
            have Pb := Post.sets Py rps hset
            generalize hFsb : wipeF is Fs' = Fsb at Pb
            have hsub : ∀ j ∈ is, j ∈ vs := fun j m => hts j (by rw [his]; exact m)
            have wσ : L2.wipe (setsV is vsx (L2.wipe σ vs)) vs = L2.wipe σ vs := by
              rw [wipe_setsV hsub]
              exact wipe_wipe σ vs
            refine ⟨wσ, ?_⟩
            refine hc (setsV is vsx (L2.wipe σ vs)) Hy δb Fsb _ b δc Pb.env Pb.sep0 hc1 fun H3 Fs3 pc => ?_
            have Pc := Pb.comp pc
            rw [List.append_nil] at Pc
            have noT1 : ∀ a, InM Mc Fsb a → a ∉ (Fr ++ [dd] ++ F) := fun a ⟨j, _, m⟩ z => Pb.sep.dir j a z m
            have t0 := keepT nv.keep (fun _ h => h.elim) ⟨hD, hacc⟩
            have t1 := keepT pc.keep noT1 t0
            have hLb : ∀ l ∈ L, Fsb l = Fs1 l := fun l m => by
              rw [← hFsb, wipeF_out fun z => (hL l m).1 (hsub l z)]
              exact hLs l m
            have hLc : ∀ l ∈ L, Fs3 l = Fs1 l := fun l m => ((pc.same l (hL l m).2.1).1).trans (hLb l m)
            have frFr : ∀ {a}, a ∈ Fr → a ∈ (Fr ++ [dd] ++ F) := fun m => by simp [m]
            have G3 : G H3 := stays _ _ (InM Mc Fsb) (stays _ _ (fun _ => False) hG nv.keep fun _ b => b.elim) pc.keep fun a ⟨j, hj, m⟩ => ⟨fun z => Pb.sep.dir j a (frFr z) m, fun l hl z => by
              rw [← hLb l hl] at z
              by_cases e : j = l
              · subst e; exact (hL j hl).2.1 hj
              · exact Pb.sep.dis j l e a m z⟩
            have kp3 : Keep (fun _ => True) H1 H3 := kp.trans ((nv.keep.imp (B' := fun _ => True) fun _ _ _ => trivial).trans (pc.keep.imp (B' := fun _ => True) fun _ _ _ => trivial) (fun _ _ h => h) fun _ _ h => h) (fun _ _ h => h) fun _ _ h => h
            have len3 : δc.length = δ1.length := by
              rw [← hlen, ← wipeD_len δ' vs, ← setsD_length hset, ← Pb.env.len, Pc.env.len]
            have mset : ∀ {M' : List Nat}, (∀ j ∈ M', j ∈ Mc ∨ j ∈ Me) → ∀ j ∈ (Mt ++ is ++ M') ++ vs, j ∈ Mt := fun {M'} hM j m => by
              rcases List.mem_append.mp m with m | m
              · rcases List.mem_append.mp m with m | m
                · rcases List.mem_append.mp m with m | m
                  · exact m
                  · exact List.mem_append_right _ (List.mem_append_left _ (hsub j m))
                · exact List.mem_append_right _ (List.mem_append_right _ (List.mem_append.mpr (hM j m)))
              · exact List.mem_append_right _ (List.mem_append_left _ m)
            cases b with
            | false =>
              rw [if_neg Bool.false_ne_true] at hc2
              refine iteF ⟨δc, wipeF vs Fs3, vacc, dacc, F, ys, ?_, t1.1, t1.2, Nat.le_succ_of_le hdl, hc2, hys, G3, kp3, fun l hl => by rw [wipeF_out (hL l hl).1]; exact hLc l hl, fun v m => wipeF_in m, len3⟩
              have := (Pc.wipe vs).mono (M' := Mt) (mset fun j m => .inl m)
              rw [wσ] at this
              exact this
            | true =>
              rw [if_pos rfl] at hc2
              rcases bind_some hc2 with ⟨y, δd, hd1, hd2⟩ | ⟨x, _, hx⟩
              · rcases bind_some hd2 with ⟨yr, δr, hr1, hr2⟩ | ⟨x, _, hx⟩
                · cases hr2
                  refine iteT (he (setsV is vsx (L2.wipe σ vs)) H3 δc Fs3 _ _ Pc.env Pc.sep0 hd1 fun vy H4 Fs4 Fy pe o => ?_)
                  have P4 := Pc.comp pe
                  have noT2 : ∀ a, InM Me Fs3 a → a ∉ (Fr ++ [dd] ++ F) := fun a ⟨j, _, m⟩ z => Pc.sep.dir j a z m
                  obtain ⟨t2, t3⟩ := keepT pe.keep noT2 t1
                  have hdl4 : dacc.length < 1000000 := by omega
                  refine ⟨vacc, t2, by rw [t3.length]; exact lim_lt hdl4, δd, wipeF vs Fs4, vacc ++ [vy], dacc ++ [y], F ++ Fy, yr, ?_, upd_same, ?_, by rw [List.length_append]; exact Nat.succ_le_succ hdl, hr1, by rw [List.append_assoc]; exact hys, ?_, ?_, fun l hl => ?_, fun v m => wipeF_in m, ?_⟩
                  · have P5 := P4.updR (q := dd) (o := .lst (vacc ++ [vy])) (by simp) rfl
                    have := (P5.wipe vs).mono (M' := Mt) (by
                      have := mset (M' := Mc ++ Me) fun j m => List.mem_append.mp m
                      intro j m
                      exact this j (by simpa [List.append_assoc] using m))
                    rw [wσ] at this
                    have e : Fr ++ [dd] ++ F ++ Fy = Fr ++ [dd] ++ (F ++ Fy) := List.append_assoc _ _ _
                    rw [e] at this
                    exact this
                  · have nd4 := P4.sep.ndr
                    have ndd : dd ∉ F ++ Fy := fun m => by
                      have e : Fr ++ [dd] ++ F ++ Fy = Fr ++ (dd :: (F ++ Fy)) := by simp
                      rw [e] at nd4
                      exact (List.nodup_cons.mp (List.nodup_append.mp nd4).2.1).1 m
                    have k2 : Keep (fun a => a = dd) H4 (upd H4 dd (.lst (vacc ++ [vy]))) := .upd rfl fun u e => by
                      rw [t2] at e; cases e; rfl
                    have r1 : Reps S.K H4 (vacc ++ [vy]) (dacc ++ [y]) (F ++ (Fy ++ [])) := t3.append (.cons o .nil)
                    rw [List.append_nil] at r1
                    exact r1.keep k2 fun a m e => ndd (e ▸ m)
                  · have G4 : G H4 := stays _ _ (InM Me Fs3) G3 pe.keep fun a ⟨j, hj, m⟩ => ⟨fun z => Pc.sep.dir j a (frFr z) m, fun l hl z => by
                      rw [← hLc l hl] at z
                      by_cases e : j = l
                      · subst e; exact (hL j hl).2.2 hj
                      · exact Pc.sep.dis j l e a m z⟩
                    refine stays _ _ (fun a => a = dd) G4 (.upd rfl fun u e => by rw [t2] at e; cases e; rfl) fun a e => ?_
                    subst e
                    refine ⟨fun z => ?_, fun l hl z => ?_⟩
                    · have nd0 := P.sep.ndr
                      have e : Fr ++ [a] ++ F = Fr ++ (a :: F) := by simp
                      rw [e] at nd0
                      exact (List.nodup_append.mp nd0).2.2 a z a List.mem_cons_self rfl
                    · rw [← hLs l hl] at z
                      exact P.sep.dir l a (by simp) z
                  · refine kp3.trans ((pe.keep.imp (B' := fun _ => True) fun _ _ _ => trivial).trans (Keep.upd (B := fun _ => True) trivial fun u e => by rw [t2] at e; cases e; rfl) (fun _ _ h => h) fun _ _ h => h) (fun _ _ h => h) fun _ _ h => h
                  · rw [wipeF_out (hL l hl).1]
                    exact ((pe.same l (hL l hl).2.2).1).trans (hLc l hl)
                  · rw [← len3, ← Pc.env.len, P4.env.len]
                · cases hx
              · cases hx
theorem de_comp {elt tg iter : Expr} {ifs : List Expr} {scope : Scope} {own : List (Str × Nat)} {pos : Pos} {L M Mc Me : List Nat} {f : EM (List D)} {t : Tg} {cond : EM Bool} {ef : EM D}
    (nd : S.N.Nodup) (hI : DI S tg iter L M f) (blk : BlkOk S.N S.sc scope own) (hs : ∀ env x, foldedSetIterable iter env x = pure x)
    (ht : TgOk (subS S scope) tg t) (hts : ∀ i ∈ t.slots, i ∈ own.map (·.2)) (hc : DTs (subS S scope) ifs Mc cond) (he : DE (subS S scope) elt .own Me ef)
    (hL : ∀ l ∈ L, l ∉ own.map (·.2) ∧ l ∉ Mc ∧ l ∉ Me) : DE S (.ListComp elt [⟨tg, iter, ifs, 0⟩] scope pos) .own (M ++ (Mc ++ Me)) (cComp (own.map (·.2)) t f cond ef) := fun σ H δ Fs Q r E s hf k => by
  obtain ⟨g, hg, tgq⟩ := ht.ex
  exact ⟨_, fun X hX => pe_lc hX.calm (by rw [hX.N]; exact nd) (pi_tB hX) (by rw [hX.N, hX.sc]; exact blk) (fun s H C cl fp => hg _ (hX.sub s H C cl fp)) (fun s H C cl fp => pts_tB (hX.sub s H C cl fp)) (fun s H C cl fp => pe_tB (hX.sub s H C cl fp)) (hs _),
    comp_read (S := S) (g := g) tgq hI hts hc he hL σ H δ Fs Q r E s k hf⟩
end DL
/-! DL10: statements. -/
namespace DL
open PySem PySem.Spec PyProof.Rows L2
variable {S : Sig}
inductive Fl where
  | nx | bk | ct | rt (d : D)
def tBS (S : Sig) (st : Stmt) : TS := fun D σ H => ∃ t, (∀ X, Fits S X → PS X st t) ∧ t D σ H
def tBSs (S : Sig) (sts : List Stmt) : TS := fun D σ H => ∃ t, (∀ X, Fits S X → PSs X sts t) ∧ t D σ H
theorem ps_tB {X : Cx} {st : Stmt} (h : Fits S X) : PS X st (tBS S st) := ⟨fun pins s σ H D I ⟨t, ht, q⟩ => (ht X h).run pins s σ H D I q⟩
theorem pss_tB {X : Cx} {st : List Stmt} (h : Fits S X) : PSs X st (tBSs S st) := ⟨fun pins s σ H D I ⟨t, ht, q⟩ => (ht X h).run pins s σ H D I q⟩
def SameA (A : List Nat) (σ σ' : L2.St) : Prop := ∀ i, i ∉ A → σ'[i]? = σ[i]?
theorem SameA.refl {A : List Nat} {σ : L2.St} : SameA A σ σ := fun _ _ => rfl
theorem SameA.trans {A B : List Nat} {σ σ1 σ2 : L2.St} (h : SameA A σ σ1) (g : SameA B σ1 σ2) : SameA (A ++ B) σ σ2 := fun i n => (g i fun m => n (List.mem_append_right _ m)).trans (h i fun m => n (List.mem_append_left _ m))
theorem SameA.mono {A B : List Nat} {σ σ1 : L2.St} (h : SameA A σ σ1) (s : ∀ i ∈ A, i ∈ B) : SameA B σ σ1 := fun i n => h i fun m => n (s i m)
def FlOk (S : Sig) (M A : List Nat) (σ : L2.St) (H : Hp) (δ : DEnv) (Fs : FT) (D : Ends) : Out Fl → Prop
  | .ok .nx δ' => ∀ σ' H' Fs', Post S.K M H δ Fs σ' H' δ' Fs' [] → SameA A σ σ' → D.nx σ' H'
  | .ok .bk δ' => ∀ σ' H' Fs', Post S.K M H δ Fs σ' H' δ' Fs' [] → SameA A σ σ' → D.bk σ' H'
  | .ok .ct δ' => ∀ σ' H' Fs', Post S.K M H δ Fs σ' H' δ' Fs' [] → SameA A σ σ' → D.ct σ' H'
  | .ok (.rt d) δ' => ∀ v σ' H' Fs' Fr, Post S.K M H δ Fs σ' H' δ' Fs' Fr → SameA A σ σ' → Rep S.K H' v d Fr → D.rt v H'
  | .ex x => XOk S H Fs x
theorem FlOk.mono {M M' A A' : List Nat} {σ : L2.St} {H : Hp} {δ : DEnv} {Fs : FT} {D : Ends} {r : Out Fl} (h : FlOk S M' A' σ H δ Fs D r) (s : ∀ i ∈ M, i ∈ M') (t : ∀ i ∈ A, i ∈ A') : FlOk S M A σ H δ Fs D r := by
  cases r with
  | ex x => exact h
  | ok f δ' => cases f with
    | nx => exact fun σ' H' Fs' p a => h σ' H' Fs' (p.mono s) (a.mono t)
    | bk => exact fun σ' H' Fs' p a => h σ' H' Fs' (p.mono s) (a.mono t)
    | ct => exact fun σ' H' Fs' p a => h σ' H' Fs' (p.mono s) (a.mono t)
    | rt d => exact fun v σ' H' Fs' Fr p a r => h v σ' H' Fs' Fr (p.mono s) (a.mono t) r
theorem FlOk.step {M1 M2 A1 A2 : List Nat} {σ σ1 : L2.St} {H H1 : Hp} {δ δ1 : DEnv} {Fs Fs1 : FT} {D : Ends} {r : Out Fl} (h : FlOk S (M1 ++ M2) (A1 ++ A2) σ H δ Fs D r) (p : Post S.K M1 H δ Fs σ1 H1 δ1 Fs1 []) (a : SameA A1 σ σ1) : FlOk S M2 A2 σ1 H1 δ1 Fs1 D r := by
  cases r with
  | ex x => exact XOk.post h p
  | ok f δ' => cases f with
    | nx => exact fun σ' H' Fs' p' a' => h σ' H' Fs' (p.comp p') (a.trans a')
    | bk => exact fun σ' H' Fs' p' a' => h σ' H' Fs' (p.comp p') (a.trans a')
    | ct => exact fun σ' H' Fs' p' a' => h σ' H' Fs' (p.comp p') (a.trans a')
    | rt d => exact fun v σ' H' Fs' Fr p' a' r => h v σ' H' Fs' Fr (p.comp p') (a.trans a') r
def DS (S : Sig) (st : Stmt) (M A : List Nat) (g : EM Fl) : Prop := ∀ (σ : L2.St) (H : Hp) (δ : DEnv) (Fs : FT) (D : Ends) (r : Out Fl), EnvR S.K H σ δ Fs → Sep Fs [] → g δ = some r → FlOk S M A σ H δ Fs D r → tBS S st D σ H
def DSs (S : Sig) (sts : List Stmt) (M A : List Nat) (g : EM Fl) : Prop := ∀ (σ : L2.St) (H : Hp) (δ : DEnv) (Fs : FT) (D : Ends) (r : Out Fl), EnvR S.K H σ δ Fs → Sep Fs [] → g δ = some r → FlOk S M A σ H δ Fs D r → tBSs S sts D σ H
@[simp] def cNx : EM Fl := fun δ => some (.ok .nx δ)
@[simp] def cSeq (f g : EM Fl) : EM Fl := fun δ => match f δ with
  | some (.ok .nx δ1) => g δ1
  | r => r
theorem dss_nil : DSs S [] [] [] cNx := fun σ H δ Fs D r E s hf k => by
  cases hf
  exact ⟨_, fun X _ => pss_nil, k σ H Fs (Post.refl E s) .refl⟩
theorem dss_cons {st : Stmt} {rest : List Stmt} {M1 M2 A1 A2 : List Nat} {f g : EM Fl} (h1 : DS S st M1 A1 f) (h2 : DSs S rest M2 A2 g) : DSs S (st :: rest) (M1 ++ M2) (A1 ++ A2) (cSeq f g) := fun σ H δ Fs D r E s hf k => by
  refine ⟨_, fun X hX => pss_cons (ps_tB hX) (pss_tB hX), ?_⟩
  show tBS S st { D with nx := tBSs S rest D } σ H
  unfold cSeq at hf
  have inl : ∀ i ∈ M1, i ∈ M1 ++ M2 := fun i m => List.mem_append_left _ m
  have inl' : ∀ i ∈ A1, i ∈ A1 ++ A2 := fun i m => List.mem_append_left _ m
  cases e : f δ with
  | none => rw [e] at hf; cases hf
  | some r1 =>
    rw [e] at hf
    cases r1 with
    | ex x => cases hf; exact h1 σ H δ Fs _ _ E s e k
    | ok fl δ1 => cases fl with
      | nx => exact h1 σ H δ Fs _ _ E s e fun σ1 H1 Fs1 p a => h2 σ1 H1 δ1 Fs1 D r p.env p.sep hf (k.step p a)
      | bk => cases hf; exact h1 σ H δ Fs _ _ E s e fun σ1 H1 Fs1 p a => k σ1 H1 Fs1 (p.mono inl) (a.mono inl')
      | ct => cases hf; exact h1 σ H δ Fs _ _ E s e fun σ1 H1 Fs1 p a => k σ1 H1 Fs1 (p.mono inl) (a.mono inl')
      | rt d => cases hf; exact h1 σ H δ Fs _ _ E s e fun v σ1 H1 Fs1 Fr p a rp => k v σ1 H1 Fs1 Fr (p.mono inl) (a.mono inl') rp
section
variable {e c : Expr} {pos : Pos} {κ : Kd} {M M1 M2 M3 A1 A2 : List Nat} {f : EM D}
@[simp] def cRet (f : EM D) : EM Fl := EM.bind f fun d δ => some (.ok (.rt d) δ)
theorem ds_ret (h : DE S e .own M f) : DS S (.Return (some e) pos) M [] (cRet f) := fun σ H δ Fs D r E s hf k => by
  refine ⟨_, fun X hX => ps_ret (pe_tB hX), ?_⟩
  show tB S e σ H D.rt
  rcases bind_some hf with ⟨d, δ1, h1, h2⟩ | ⟨x, h1, rfl⟩
  · cases h2
    exact h σ H δ Fs _ _ E s h1 fun v H1 Fs1 F p o => k v σ H1 Fs1 F p .refl o
  · exact h σ H δ Fs _ _ E s h1 k
@[simp] def cRetN : EM Fl := fun δ => some (.ok (.rt .none) δ)
theorem ds_retN : DS S (.Return none pos) [] [] cRetN := fun σ H δ Fs D r E s hf k => by
  cases hf
  exact ⟨_, fun X hX => ps_retN, k .non σ H Fs [] (Post.refl E s) .refl .non⟩
theorem ds_pass : DS S (.Pass pos) [] [] cNx := fun σ H δ Fs D r E s hf k => by
  cases hf
  exact ⟨_, fun X hX => ps_pass, k σ H Fs (Post.refl E s) .refl⟩
@[simp] def cBk : EM Fl := fun δ => some (.ok .bk δ)
@[simp] def cCt : EM Fl := fun δ => some (.ok .ct δ)
theorem ds_break : DS S (.Break pos) [] [] cBk := fun σ H δ Fs D r E s hf k => by
  cases hf
  exact ⟨_, fun X hX => ps_break, k σ H Fs (Post.refl E s) .refl⟩
theorem ds_continue : DS S (.Continue pos) [] [] cCt := fun σ H δ Fs D r E s hf k => by
  cases hf
  exact ⟨_, fun X hX => ps_continue, k σ H Fs (Post.refl E s) .refl⟩
@[simp] def cDrop (f : EM D) : EM Fl := EM.bind f fun _ δ => some (.ok .nx δ)
theorem ds_expr (h : DE S e κ M f) (hs : ∀ env, swapsWith e none pos.line env = pure false) : DS S (.Expr e pos) M [] (cDrop f) := fun σ H δ Fs D r E s hf k => by
  refine ⟨_, fun X hX => ps_expr (pe_tB hX) (hs _), ?_⟩
  show tB S e σ H fun _ H1 => D.nx σ H1
  rcases bind_some hf with ⟨d, δ1, h1, h2⟩ | ⟨x, h1, rfl⟩
  · cases h2
    exact h σ H δ Fs _ _ E s h1 fun v H1 Fs1 F p o => k σ H1 Fs1 p.dropR .refl
  · exact h σ H δ Fs _ _ E s h1 k
@[simp] def cIfS (t : EM Bool) (f g : EM Fl) : EM Fl := EM.bind t fun b => if b = true then f else g
theorem ds_if {a b : List Stmt} {t : EM Bool} {f g : EM Fl} (ht : DT S c M1 t) (hf' : DSs S a M2 A1 f) (hg : DSs S b M3 A2 g) : DS S (.If c a b pos) (M1 ++ (M2 ++ M3)) (A1 ++ A2) (cIfS t f g) := fun σ H δ Fs D r E s hf k => by
  refine ⟨_, fun X hX => ps_if (pt_tB hX) (pss_tB hX) (pss_tB hX), ?_⟩
  show tBT S c σ H fun b' H1 => if b' = true then tBSs S a D σ H1 else tBSs S b D σ H1
  rcases bind_some hf with ⟨d, δ1, h1, h2⟩ | ⟨x, h1, rfl⟩
  · refine ht σ H δ Fs _ _ E s h1 fun H1 Fs1 p => ?_
    have k1 : FlOk S (M2 ++ M3) (A1 ++ A2) σ H1 δ1 Fs1 D r := FlOk.step (A1 := []) k p .refl
    cases d with
    | true =>
      rw [if_pos rfl] at h2
      exact iteT (hf' σ H1 δ1 Fs1 D r p.env p.sep h2 (k1.mono (fun i m => List.mem_append_left _ m) fun i m => List.mem_append_left _ m))
    | false =>
      rw [if_neg Bool.false_ne_true] at h2
      exact iteF (hg σ H1 δ1 Fs1 D r p.env p.sep h2 (k1.mono (fun i m => List.mem_append_right _ m) fun i m => List.mem_append_right _ m))
  · exact ht σ H δ Fs _ _ E s h1 k
/-! ### assignments -/
@[simp] def cAsg (i : Nat) (f : EM D) : EM Fl := EM.bind f fun d δ => if i < δ.length then some (.ok .nx (δ.set i (some d))) else none
theorem SameA.set {σ : L2.St} {i : Nat} {x : Option V} : SameA [i] σ (σ.set i x) := fun j n => List.getElem?_set_ne fun e => n (by simp [e])
theorem ds_asg {i : Nat} {x : Str} {p' : Pos} (n : NmT S i x) (h : DE S e .own M f) (hs : ∀ env, swapsWith e (some (.Name x p')) pos.line env = pure false) : DS S (.Assign [.Name x p'] e pos) (M ++ [i]) [i] (cAsg i f) := fun σ H δ Fs D r E s hf k => by
  refine ⟨_, fun X hX => ps_set (by rw [hX.N]; exact n.nd) (by rw [hX.N]; exact n.hN) (by rw [hX.sc]; exact n.loc) (pe_tB hX) (hs _) (by rw [hX.sc]; exact n.fn.imp (hX.fn x) id), ?_⟩
  show tB S e σ H fun v H1 => D.nx (σ.set i (some v)) H1
  rcases bind_some hf with ⟨d, δ1, h1, h2⟩ | ⟨x, h1, rfl⟩
  · by_cases hi : i < δ1.length
    · rw [if_pos hi] at h2
      cases h2
      exact h σ H δ Fs _ _ E s h1 fun v H1 Fs1 F p o => k _ H1 _ (Post.set (F := []) (G := F) p hi o) .set
    · rw [if_neg hi] at h2; cases h2
  · exact h σ H δ Fs _ _ E s h1 k
/-- y = [..] -/
theorem ds_asgLc {elt tg iter : Expr} {ifs : List Expr} {scope : Scope} {own : List (Str × Nat)} {L M Mc Me : List Nat} {f : EM (List D)} {t : Tg} {cond : EM Bool} {ef : EM D} {i : Nat} {x : Str} {p' lpos : Pos} (n : NmT S i x) (hxl : S.sc.names.lookup x = some .local)
    (hsw : ∀ env, env.scope = S.sc → swapsWith (.ListComp elt [⟨tg, iter, ifs, 0⟩] scope lpos) (some (.Name x p')) pos.line env = pure true)
    (hI : DI S tg iter L M f) (blk : BlkOk S.N S.sc scope own) (hs : ∀ env x, foldedSetIterable iter env x = pure x)
    (ht : TgOk (subS S scope) tg t) (hts : ∀ i ∈ t.slots, i ∈ own.map (·.2)) (hc : DTs (subS S scope) ifs Mc cond) (he : DE (subS S scope) elt .own Me ef)
    (hL : ∀ l ∈ L, l ∉ own.map (·.2) ∧ l ∉ Mc ∧ l ∉ Me) : DS S (.Assign [.Name x p'] (.ListComp elt [⟨tg, iter, ifs, 0⟩] scope lpos) pos) ((M ++ (Mc ++ Me)) ++ [i]) [i] (cAsg i (cComp (own.map (·.2)) t f cond ef)) := fun σ H δ Fs D r E s hf k => by
  obtain ⟨g, hg, tgq⟩ := ht.ex
  refine ⟨_, fun X hX => ps_setLc (i := i) hX.calm (by rw [hX.N]; exact n.nd) (by rw [hX.N]; exact n.hN) (by rw [hX.sc]; exact hxl) (hsw _ hX.sc) (pi_tB hX) (by rw [hX.N, hX.sc]; exact blk) (fun s H C cl fp => hg _ (hX.sub s H C cl fp)) (fun s H C cl fp => pts_tB (hX.sub s H C cl fp)) (fun s H C cl fp => pe_tB (hX.sub s H C cl fp)) (hs _), ?_⟩
  show tLc (tBI S tg iter) g (tBTs (subS S scope) ifs) (tB (subS S scope) elt) (own.map (·.2)) σ H fun v H1 => D.nx (σ.set i (some v)) H1
  rcases bind_some hf with ⟨d, δ1, h1, h2⟩ | ⟨x, h1, rfl⟩
  · by_cases hi : i < δ1.length
    · rw [if_pos hi] at h2
      cases h2
      exact comp_read (S := S) (g := g) tgq hI hts hc he hL σ H δ Fs _ (.ok d δ1) E s (fun v H1 Fs1 F p o => k _ H1 _ (Post.set (F := []) (G := F) p hi o) .set) h1
    · rw [if_neg hi] at h2; cases h2
  · exact comp_read (S := S) (g := g) tgq hI hts hc he hL σ H δ Fs _ (.ex x) E s k h1
/-- a, b = e: the places take the parts, owned ones too -/
theorem Post.setsO {K : PySem.W.Frag} {H H1 : Hp} {δ : DEnv} {Fs : FT} {F : List Addr} : ∀ {is : List Nat} {vs : List V} {ds : List D} {G : List Addr} {M : List Nat} {σ1 : L2.St} {δ1 δ2 : DEnv} {Fs1 : FT}, Post K M H δ Fs σ1 H1 δ1 Fs1 (F ++ G) → Reps K H1 vs ds G → setsD is ds δ1 = some δ2 →
    ∃ Fs2, Post K (M ++ is) H δ Fs (setsV is vs σ1) H1 δ2 Fs2 F
  | [], _, [], G, M, σ1, δ1, δ2, Fs1, p, r, h => by
    cases h
    cases r
    rw [List.append_nil]
    rw [List.append_nil] at p
    exact ⟨_, p⟩
  | i :: is, vs, d :: ds, G, M, σ1, δ1, δ2, Fs1, p, r, h => by
    unfold setsD at h
    by_cases hi : i < δ1.length
    · rw [if_pos hi] at h
      cases r with
      | @cons v _ F1 vs _ G1 r1 rt =>
        -- the first part's footprint stands behind the others'
        have p' : Post K M H δ Fs σ1 H1 δ1 Fs1 ((F ++ G1) ++ F1) := by
          have perm : List.Perm (F ++ (F1 ++ G1)) ((F ++ G1) ++ F1) := by
            rw [List.append_assoc]
            exact List.Perm.append_left F List.perm_append_comm
          exact ⟨p.env, ⟨perm.nodup_iff.mp p.sep.ndr, p.sep.nds, p.sep.dis, fun i a m => p.sep.dir i a (perm.mem_iff.mpr m)⟩, fun a m => p.trk a (perm.mem_iff.mpr m), p.sub, fun a m => p.subr a (perm.mem_iff.mpr m), p.keep, p.same⟩
        have p2 := Post.set (F := F ++ G1) (G := F1) p' hi r1
        obtain ⟨Fs2, p3⟩ := Post.setsO p2 rt h
        exact ⟨Fs2, by rw [List.append_assoc] at p3; exact p3⟩
    · rw [if_neg hi] at h; cases h
  | [], _, _ :: _, _, _, _, _, _, _, _, _, h => by cases h
  | _ :: _, _, [], _, _, _, _, _, _, _, _, h => by cases h
theorem sameA_sets : ∀ {is : List Nat} {vs : List V} {σ : L2.St}, SameA is σ (setsV is vs σ)
  | [], _, σ => by unfold setsV; exact .refl
  | i :: is, [], σ => by unfold setsV; exact .refl
  | i :: is, v :: vs, σ => by
    unfold setsV
    exact (SameA.trans (A := [i]) (B := is) .set sameA_sets)
@[simp] def cAsgT (is : List Nat) (f : EM D) : EM Fl := EM.bind f fun d δ => match d with
  | .tuple ds => match setsD is ds δ with
    | some δ2 => some (.ok .nx δ2)
    | none => none
  | _ => none
theorem ds_asgT {es : List Expr} {is : List Nat} {n : Nat} {tpos : Pos} (t : TgsOk S es is) (hn : ∀ env, (assignEach es env).length = is.length) (hst : ∀ env, (assignEach es env).findIdx? (·.1) = none) (h : DE S e .own M f)
    (hs : ∀ env, swapsWithSole [.Tuple es n tpos] e pos.line env = pure false) (hw : ∀ env, swappedStores [.Tuple es n tpos] e env = pure none) : DS S (.Assign [.Tuple es n tpos] e pos) (M ++ is) is (cAsgT is f) := fun σ H δ Fs D r E s hf k => by
  refine ⟨_, fun X hX => (by have := ps_asg (pe_tB (S := S) hX) (pg_tup (pos := tpos) (k := n) (n := is.length) hX.calm (t.pgs hX) (hn _) (hst _)) (hs _) (hw _); rw [hX.K] at this; exact this), ?_⟩
  show tB S e σ H fun v H1 => ∃ a xs, v = .ref a ∧ SqT S.K H1 a xs ∧ xs.length = is.length ∧ gNames is xs σ H1 D.nx
  rcases bind_some hf with ⟨d, δ1, h1, h2⟩ | ⟨x, h1, rfl⟩
  · cases d with
    | tuple ds =>
      dsimp only at h2
      cases q : setsD is ds δ1 with
      | none => rw [q] at h2; cases h2
      | some δ2 =>
        rw [q] at h2
        cases h2
        refine h σ H δ Fs _ _ E s h1 fun v H1 Fs1 F p o => ?_
        obtain ⟨a, vs, rfl, hp, rs⟩ := Rep.iTup o
        have hl : vs.length = is.length := rs.length.trans (setsD_len q)
        obtain ⟨Fs2, p2⟩ := Post.setsO (F := []) p rs q
        exact ⟨a, vs, rfl, hp, hl, gNames_run hl (k _ H1 Fs2 p2 sameA_sets)⟩
    | _ => cases h2
  · exact h σ H δ Fs _ _ E s h1 k
/-- x += n -/
@[simp] def cAugI (i : Nat) (g : Int → Int → Int) (f : EM D) : EM Fl := fun δ => match δ[i]? with
  | some (some (.int a)) => EM.bind f (fun d δ1 => match d with
    | .int b => if i < δ1.length then some (.ok .nx (δ1.set i (some (.int (g a b))))) else none
    | _ => none) δ
  | _ => none
theorem ds_augI {i : Nat} {x : Str} {p' : Pos} {op : Operator} {g : Int → Int → Int} (n : NmT S i x) (hp : ∀ X, PIp X op (ipI g)) (h : DE S e κ M f) : DS S (.AugAssign (.Name x p') op e pos) (M ++ [i]) [i] (cAugI i g f) := fun σ H δ Fs D r E s hf k => by
  refine ⟨_, fun X hX => ps_aug (by rw [hX.N]; exact n.nd) (by rw [hX.N]; exact n.hN) (by rw [hX.sc]; exact n.loc) (pe_tB hX) (hp X) (by rw [hX.sc]; exact n.fn.imp (hX.fn x) id), ?_⟩
  show ∃ x, σ[i]? = some (some x) ∧ tB S e σ H fun y H1 => ipI g x y H1 fun z H2 => D.nx (σ.set i (some z)) H2
  unfold cAugI at hf
  split at hf
  · rename_i a ha
    obtain ⟨v, hv, r0⟩ := E.at i _ ha
    have ev := r0.iInt
    subst ev
    refine ⟨_, hv, ?_⟩
    rcases bind_some hf with ⟨d, δ1, h1, h2⟩ | ⟨x, h1, rfl⟩
    · cases d with
      | int b =>
        dsimp only at h2
        by_cases hi : i < δ1.length
        · rw [if_pos hi] at h2
          cases h2
          refine h σ H δ Fs _ _ E s h1 fun w H1 Fs1 F p o => ?_
          obtain ⟨G, rw'⟩ := o.rep p.env
          exact ⟨a, b, rfl, rw'.iInt, k _ H1 _ (Post.set (F := []) (G := []) p.dropR hi (.int _)) .set⟩
        · rw [if_neg hi] at h2; cases h2
      | _ => cases h2
    · exact h σ H δ Fs _ _ E s h1 k
  · cases hf
end
/-! ### lists and dicts of slots that change -/
/-- the slot j's object changes (G: what comes in, R: what goes out) -/
theorem Post.mut {K : PySem.W.Frag} {M : List Nat} {H H1 : Hp} {δ δ1 : DEnv} {Fs Fs1 : FT} {σ1 : L2.St} {F G G' R Gj : List Addr} {j : Nat} {a : Addr} {o : HO} {d' : D} (p : Post K M H δ Fs σ1 H1 δ1 Fs1 (F ++ G)) (hj : j < δ1.length) (hF : Fs1 j = a :: Gj) (hv : σ1[j]? = some (some (.ref a)))
    (ho : mutO o = true) (r : Rep K (upd H1 a o) (.ref a) d' (a :: G')) (sub : ∀ x ∈ R ++ G', x ∈ Gj ∨ x ∈ G) (nd : (R ++ (a :: G')).Nodup) : Post K (M ++ [j]) H δ Fs σ1 (upd H1 a o) (δ1.set j (some d')) (setF Fs1 j (a :: G')) (F ++ R) := by
  have aj : a ∈ Fs1 j := by rw [hF]; exact List.mem_cons_self
  have gj : ∀ x ∈ Gj, x ∈ Fs1 j := fun x m => by rw [hF]; exact List.mem_cons_of_mem _ m
  have k1 : Keep (fun x => x = a) H1 (upd H1 a o) := .upd rfl fun u e => by
    obtain ⟨u', e', h⟩ := p.env.trk aj
    rw [e] at e'; cases e'; exact h
  have ndF := List.nodup_append.mp p.sep.ndr
  have ndR := List.nodup_append.mp nd
  have src : ∀ x, x ∈ R ∨ x ∈ a :: G' → x ∈ Fs1 j ∨ x ∈ G := fun x m => by
    rcases m with m | m
    · exact (sub x (List.mem_append_left _ m)).imp (gj x) id
    · rcases List.mem_cons.mp m with e | m
      · subst e; exact .inl aj
      · exact (sub x (List.mem_append_right _ m)).imp (gj x) id
  have back : ∀ x, x ∈ Fs1 j ∨ x ∈ G → InM (M ++ [j]) Fs x ∨ H x = none := fun x m => by
    rcases m with m | m
    · by_cases hm : j ∈ M
      · exact (p.sub j hm x m).imp (fun z => z.mono fun i m => List.mem_append_left _ m) id
      · rw [(p.same j hm).1] at m
        exact .inl ⟨j, List.mem_append_right _ (by simp), m⟩
    · exact (p.subr x (List.mem_append_right _ m)).imp (fun z => z.mono fun i m => List.mem_append_left _ m) id
  have noF : ∀ x ∈ F, ¬ (x ∈ Fs1 j ∨ x ∈ G) := fun x m h => by
    rcases h with h | h
    · exact p.sep.dir j x (List.mem_append_left _ m) h
    · exact ndF.2.2 x m x h rfl
  have noI : ∀ i, i ≠ j → ∀ x ∈ Fs1 i, ¬ (x ∈ Fs1 j ∨ x ∈ G) := fun i n x m h => by
    rcases h with h | h
    · exact p.sep.dis i j n x m h
    · exact p.sep.dir i x (List.mem_append_right _ h) m
  refine ⟨⟨?_, fun i d e => ?_, fun i h => ?_⟩, ⟨List.nodup_append.mpr ⟨ndF.1, ndR.1, fun x m y m' e => ?_⟩, fun i => ?_, fun i l n x m => ?_, fun i x m => ?_⟩, fun x m => ?_, fun i hi x m => ?_, fun x m => ?_, fun x u e c => ?_, fun i n => ?_⟩
  · rw [List.length_set]; exact p.env.len
  · by_cases q : j = i
    · subst q
      rw [List.getElem?_set_self hj] at e
      cases e
      exact ⟨_, hv, by rw [setF_same]; exact r⟩
    · rw [List.getElem?_set_ne q] at e
      obtain ⟨v, h1, h2⟩ := p.env.at i d e
      rw [setF_ne (Ne.symm q)]
      exact ⟨v, h1, h2.keep k1 fun x m e => by subst e; exact p.sep.dis i j (Ne.symm q) x m aj⟩
  · by_cases q : j = i
    · subst q
      exact absurd (List.getElem?_set_self hj) (h d')
    · rw [setF_ne (Ne.symm q)]
      exact p.env.no i fun d e => h d (by rw [List.getElem?_set_ne q]; exact e)
  · subst e
    exact noF x m (src x (.inl m'))
  · by_cases q : i = j
    · rw [q, setF_same]; exact ndR.2.1
    · rw [setF_ne q]; exact p.sep.nds i
  · by_cases q : i = j
    · subst q
      rw [setF_same] at m
      rw [setF_ne (Ne.symm n)]
      exact fun z => noI l (Ne.symm n) x z (src x (.inr m))
    · rw [setF_ne q] at m
      by_cases q2 : l = j
      · subst q2
        rw [setF_same]
        exact fun z => noI i q x m (src x (.inr z))
      · rw [setF_ne q2]; exact p.sep.dis i l n x m
  · by_cases q : i = j
    · rw [q, setF_same]
      rcases List.mem_append.mp m with m | m
      · exact fun z => noF x m (src x (.inr z))
      · exact fun z => ndR.2.2 x m x z rfl
    · rw [setF_ne q]
      rcases List.mem_append.mp m with m | m
      · exact p.sep.dir i x (List.mem_append_left _ m)
      · exact fun z => noI i q x z (src x (.inl m))
  · have tr : ∃ u, H1 x = some u ∧ mutO u = true := by
      rcases List.mem_append.mp m with m | m
      · exact p.trk x (List.mem_append_left _ m)
      · rcases src x (.inl m) with h | h
        · exact p.env.trk h
        · exact p.trk x (List.mem_append_right _ h)
    by_cases e : x = a
    · subst e; exact ⟨_, upd_same, ho⟩
    · rw [upd_ne e]; exact tr
  · by_cases q : i = j
    · subst q
      rw [setF_same] at m
      exact back x (src x (.inr m))
    · rw [setF_ne q] at m
      have hi' : i ∈ M := by
        rcases List.mem_append.mp hi with h | h
        · exact h
        · exact absurd (by simpa using h) q
      exact (p.sub i hi' x m).imp (fun z => z.mono fun i m => List.mem_append_left _ m) id
  · rcases List.mem_append.mp m with m | m
    · exact (p.subr x (List.mem_append_left _ m)).imp (fun z => z.mono fun i m => List.mem_append_left _ m) id
    · exact back x (src x (.inl m))
  · have e1 := p.keep x u e (c.imp (fun n z => n (z.mono fun i m => List.mem_append_left _ m)) id)
    refine k1 x u e1 (c.imp (fun n z => ?_) id)
    subst z
    rcases back x (.inl aj) with h | h
    · exact n h
    · rw [e] at h; cases h
  · have n1 : i ∉ M := fun z => n (List.mem_append_left _ z)
    have n2 : i ≠ j := fun z => n (List.mem_append_right _ (by simp [z]))
    exact ⟨(setF_ne n2).trans (p.same i n1).1, (List.getElem?_set_ne (Ne.symm n2)).trans (p.same i n1).2⟩
end DL
/-! DL11: lists that change; loops; the rule of a def. -/
namespace DL
open PySem PySem.Spec PyProof.Rows L2
variable {S : Sig}
theorem slot_list {K : PySem.W.Frag} {H : Hp} {σ : L2.St} {δ : DEnv} {Fs : FT} {j : Nat} {ds : List D} (E : EnvR K H σ δ Fs) (e : δ[j]? = some (some (.list ds))) : ∃ a vs G, σ[j]? = some (some (.ref a)) ∧ H a = some (.lst vs) ∧ Reps K H vs ds G ∧ Fs j = a :: G := by
  obtain ⟨v, h1, r⟩ := E.at j _ e
  obtain ⟨a, vs, G, rfl, h2, h3, h4⟩ := r.iLst
  exact ⟨a, vs, G, h1, h2, h3, h4⟩
/-- list data of a slot -/
@[simp] def lstAt (δ : DEnv) (j : Nat) : Option (List D) := match δ[j]? with
  | some (some (.list ds)) => some ds
  | _ => none
theorem lstAt_some {δ : DEnv} {j : Nat} {ds : List D} (h : lstAt δ j = some ds) : δ[j]? = some (some (.list ds)) := by
  unfold lstAt at h
  split at h
  · rename_i e; cases h; exact e
  · cases h
section
variable {e i : Expr} {es : List Expr} {κ κ2 : Kd} {M M1 M2 : List Nat} {f g : EM D} {j : Nat} {x : Str} {p1 apos cpos spos pos tpos : Pos}
/-- a method of a list in a slot, by its rule -/
theorem f_lm {m : Str} {id : String} {r : V → List V → Hp → VK → Prop} (n : NmS S j x) (slot : PySem.Slot "list" m id) (hty : typeOf (.builtin id) = pure (.type "method_descriptor")) (hm : ∀ X, Fits S X → MtR X id r) (hp : Plain (e :: es))
    (hbase : ∀ env, attributeBase (.Name x p1) m env (eval (.Name x p1) env) = eval (.Name x p1) env)
    (hfew : ∀ env, ((backTo cpos (starEach (e :: es) env)).all (fun x => !x.1) && (backToKw cpos (keywordEach [] env)).all (fun x => x.1.isSome) && decide ((e :: es).length + ([] : List Keyword).length + (if ([] : List Keyword).isEmpty then 0 else 1) < 30)) = true)
    (hline : (apos.endLine == cpos.line) = true) : ∀ X, Fits S X → PE X (.Call (.Attribute (.Name x p1) m apos) (e :: es) [] cpos) (tBM S.K "list" r (tVar j) (tBA S (e :: es))) := fun X hX => by
  have := pe_bm PySem.F.plainAttrs_list slot hty (hm X hX) (n.pe (pos := p1) hX) (pa_tB hX hp) (hbase _) (hfew _) hline (hp.1 _) (plain_any hp.2)
  rw [hX.K] at this
  exact this
theorem f_lm0 {m : Str} {id : String} {r : V → List V → Hp → VK → Prop} (n : NmS S j x) (slot : PySem.Slot "list" m id) (hty : typeOf (.builtin id) = pure (.type "method_descriptor")) (hm : ∀ X, Fits S X → MtR X id r)
    (hbase : ∀ env, attributeBase (.Name x p1) m env (eval (.Name x p1) env) = eval (.Name x p1) env) (hline : (apos.endLine == cpos.line) = true) : ∀ X, Fits S X → PE X (.Call (.Attribute (.Name x p1) m apos) [] [] cpos) (tBM0 S.K "list" r (tVar j)) := fun X hX => by
  have := pe_bm0 PySem.F.plainAttrs_list slot hty (hm X hX) (n.pe (pos := p1) hX) (hbase _) hline
  rw [hX.K] at this
  exact this
/-- xs.append(e) -/
@[simp] def cApp (j : Nat) (f : EM D) : EM Fl := fun δ => match lstAt δ j with
  | some _ => EM.bind f (fun d δ1 => match lstAt δ1 j with
    | some ds => if ds.length < 1000000 then some (.ok .nx (δ1.set j (some (.list (ds ++ [d]))))) else none
    | none => none) δ
  | none => none
theorem ds_app (n : NmS S j x) (h : DE S e .own M f) (hp : Plain [e])
    (hbase : ∀ env, attributeBase (.Name x p1) "append" env (eval (.Name x p1) env) = eval (.Name x p1) env) (hline : (apos.endLine == cpos.line) = true) (hs : ∀ env, swapsWith (.Call (.Attribute (.Name x p1) "append" apos) [e] [] cpos) none spos.line env = pure false)
    (hfew : ∀ env, ((backTo cpos (starEach [e] env)).all (fun x => !x.1) && (backToKw cpos (keywordEach [] env)).all (fun x => x.1.isSome) && decide ([e].length + ([] : List Keyword).length + (if ([] : List Keyword).isEmpty then 0 else 1) < 30)) = true) :
    DS S (.Expr (.Call (.Attribute (.Name x p1) "append" apos) [e] [] cpos) spos) (M ++ [j]) [] (cApp j f) := fun σ H δ Fs D r E s hf k => by
  refine ⟨_, fun X hX => ps_expr (f_lm (S := S) n PySem.F.slot_list_append PySem.F.type_list_append (fun X _ => mt_append) hp hbase hfew hline X hX) (hs _), ?_⟩
  show ∃ v, σ[j]? = some (some v) ∧ tyV S.K "list" v H ∧ tB S e σ H fun y H2 => rAppend v [y] H2 fun _ H3 => D.nx σ H3
  unfold cApp at hf
  cases q : lstAt δ j with
  | none => rw [q] at hf; cases hf
  | some ds0 =>
    rw [q] at hf
    dsimp only at hf
    obtain ⟨a, vs, G0, hv, hH, _, _⟩ := slot_list E (lstAt_some q)
    refine ⟨.ref a, hv, .inl ⟨rfl, _, sqL_of hH⟩, ?_⟩
    rcases bind_some hf with ⟨d, δ1, h1, h2⟩ | ⟨x, h1, rfl⟩
    · cases q2 : lstAt δ1 j with
      | none => rw [q2] at h2; cases h2
      | some ds =>
        rw [q2] at h2
        dsimp only at h2
        by_cases hl : ds.length < 1000000
        · rw [if_pos hl] at h2
          cases h2
          refine h σ H δ Fs _ _ E s h1 fun v H1 Fs1 F p o => ?_
          obtain ⟨a', ws, Gj, hv', hH1, rs, hFj⟩ := slot_list p.env (lstAt_some q2)
          rw [hv] at hv'
          cases hv'
          have hj : j < δ1.length := (List.getElem?_eq_some_iff.mp (lstAt_some q2)).1
          refine ⟨a, ws, v, rfl, rfl, hH1, by rw [rs.length]; exact lim_lt hl, k σ _ _ (Post.mut (F := []) (G := F) (R := []) (G' := Gj ++ F) p hj hFj hv rfl ?_ (fun x m => by simpa using m) ?_) .refl⟩
          · have nd2 : a ∉ Gj ++ F := fun m => by
              rcases List.mem_append.mp m with m | m
              · have := p.sep.nds j
                rw [hFj] at this
                exact (List.nodup_cons.mp this).1 m
              · exact p.sep.dir j a m (by rw [hFj]; exact List.mem_cons_self)
            have k2 : Keep (fun x => x = a) H1 (upd H1 a (.lst (ws ++ [v]))) := .upd rfl fun u e => by rw [hH1] at e; cases e; rfl
            refine .lst upd_same ?_
            have r1 : Reps S.K H1 (ws ++ [v]) (ds ++ [d]) (Gj ++ (F ++ [])) := rs.append (.cons o .nil)
            rw [List.append_nil] at r1
            exact r1.keep k2 fun x m e => nd2 (e ▸ m)
          · have h1 := p.sep.nds j
            rw [hFj] at h1
            have h1 := List.nodup_cons.mp h1
            refine List.nodup_cons.mpr ⟨fun m => ?_, List.nodup_append.mpr ⟨h1.2, p.sep.ndr, fun x m y m' e => ?_⟩⟩
            · rcases List.mem_append.mp m with m | m
              · exact h1.1 m
              · exact p.sep.dir j a m (by rw [hFj]; exact List.mem_cons_self)
            · subst e
              exact p.sep.dir j x m' (by rw [hFj]; exact List.mem_cons_of_mem _ m)
        · rw [if_neg hl] at h2; cases h2
    · exact h σ H δ Fs _ _ E s h1 k
theorem Reps.erase {K : PySem.W.Frag} {H : Hp} {vs : List V} {ds : List D} {F : List Addr} {k : Nat} {d : D} (r : Reps K H vs ds F) (e : ds[k]? = some d) (hi : DL.imm d = true) : ∃ v, vs[k]? = some v ∧ Rep K H v d [] ∧ Reps K H (vs.eraseIdx k) (ds.eraseIdx k) F := by
  obtain ⟨v, F1, G, F2, h0, h1, h2, h3, h4⟩ := r.split e
  have hG := h2.imm hi
  subst hG
  refine ⟨v, h1, h2, ?_⟩
  rw [List.eraseIdx_eq_take_drop_succ, List.eraseIdx_eq_take_drop_succ, h0]
  exact h3.append h4
theorem Reps.setI {K : PySem.W.Frag} {H : Hp} {vs : List V} {ds : List D} {F : List Addr} {k : Nat} {d d' : D} {v' : V} {G' : List Addr} (r : Reps K H vs ds F) (e : ds[k]? = some d) (hr : Rep K H v' d' G') : ∃ F', Reps K H (vs.set k v') (ds.set k d') F' ∧ (∀ x ∈ F', x ∈ F ∨ x ∈ G') ∧ (F.Nodup → G'.Nodup → (∀ x ∈ F, x ∉ G') → F'.Nodup) := by
  obtain ⟨v, F1, G, F2, h0, h1, h2, h3, h4⟩ := r.split e
  have hk : k < ds.length := (List.getElem?_eq_some_iff.mp e).1
  have hk' : k < vs.length := (List.getElem?_eq_some_iff.mp h1).1
  refine ⟨F1 ++ (G' ++ F2), ?_, fun x m => ?_, fun n1 n2 n3 => ?_⟩
  · rw [List.set_eq_take_append_cons_drop, if_pos hk', List.set_eq_take_append_cons_drop, if_pos hk]
    exact h3.append (.cons hr h4)
  · subst h0
    rcases List.mem_append.mp m with m | m
    · exact .inl (List.mem_append_left _ m)
    · rcases List.mem_append.mp m with m | m
      · exact .inr m
      · exact .inl (List.mem_append_right _ (List.mem_append_right _ m))
  · subst h0
    have a1 := List.nodup_append.mp n1
    have a2 := List.nodup_append.mp a1.2.1
    refine List.nodup_append.mpr ⟨a1.1, List.nodup_append.mpr ⟨n2, a2.2.1, fun x m y m' e => ?_⟩, fun x m y m' e => ?_⟩
    · subst e
      exact n3 x (List.mem_append_right _ (List.mem_append_right _ m')) m
    · subst e
      rcases List.mem_append.mp m' with m' | m'
      · exact n3 x (List.mem_append_left _ m) m'
      · exact a1.2.2 x m x (List.mem_append_right _ m') rfl
/-- xs.pop(i) -/
@[simp] def cPopAt (j : Nat) (f : EM D) : EM D := fun δ => match lstAt δ j with
  | some _ => EM.bind f (fun d δ1 => match lstAt δ1 j, d with
    | some ds, .int i => match ixN ds.length i with
      | some k => match ds[k]? with
        | some y => if imm y = true ∧ ds.length ≤ 1000000 then some (.ok y (δ1.set j (some (.list (ds.eraseIdx k))))) else none
        | none => none
      | none => none
    | _, _ => none) δ
  | none => none
theorem de_popAt (n : NmS S j x) (h : DE S e .own M f) (hp : Plain [e])
    (hbase : ∀ env, attributeBase (.Name x p1) "pop" env (eval (.Name x p1) env) = eval (.Name x p1) env) (hline : (apos.endLine == cpos.line) = true)
    (hfew : ∀ env, ((backTo cpos (starEach [e] env)).all (fun x => !x.1) && (backToKw cpos (keywordEach [] env)).all (fun x => x.1.isSome) && decide ([e].length + ([] : List Keyword).length + (if ([] : List Keyword).isEmpty then 0 else 1) < 30)) = true) :
    DE S (.Call (.Attribute (.Name x p1) "pop" apos) [e] [] cpos) .own (M ++ [j]) (cPopAt j f) := fun σ H δ Fs Q r E s hf k => by
  refine ⟨_, fun X hX => f_lm (S := S) n PySem.F.slot_list_pop PySem.F.type_list_pop (fun X _ => mt_popAt) hp hbase hfew hline X hX, ?_⟩
  show ∃ v, σ[j]? = some (some v) ∧ tyV S.K "list" v H ∧ tB S e σ H fun y H2 => rPopAt v [y] H2 Q
  unfold cPopAt at hf
  cases q : lstAt δ j with
  | none => rw [q] at hf; cases hf
  | some ds0 =>
    rw [q] at hf
    dsimp only at hf
    obtain ⟨a, vs, G0, hv, hH, _, _⟩ := slot_list E (lstAt_some q)
    refine ⟨.ref a, hv, .inl ⟨rfl, _, sqL_of hH⟩, ?_⟩
    rcases bind_some hf with ⟨d, δ1, h1, h2⟩ | ⟨x, h1, rfl⟩
    · cases q2 : lstAt δ1 j with
      | none => rw [q2] at h2; cases h2
      | some ds =>
        rw [q2] at h2
        cases d with
        | int i =>
          dsimp only at h2
          cases q3 : ixN ds.length i with
          | none => rw [q3] at h2; cases h2
          | some kk =>
            rw [q3] at h2
            dsimp only at h2
            cases q4 : ds[kk]? with
            | none => rw [q4] at h2; cases h2
            | some y =>
              rw [q4] at h2
              dsimp only at h2
              by_cases hy : imm y = true ∧ ds.length ≤ 1000000
              · rw [if_pos hy] at h2
                cases h2
                refine h σ H δ Fs _ _ E s h1 fun v H1 Fs1 F p o => ?_
                have ev := Rep.iInt o
                subst ev
                obtain ⟨a', ws, Gj, hv', hH1, rs, hFj⟩ := slot_list p.env (lstAt_some q2)
                rw [hv] at hv'
                cases hv'
                have hj : j < δ1.length := (List.getElem?_eq_some_iff.mp (lstAt_some q2)).1
                obtain ⟨w, hw, rw', rs'⟩ := rs.erase q4 hy.1
                have hix := ixN_seq q3
                rw [← rs.length] at hix
                have ndj := p.sep.nds j
                rw [hFj] at ndj
                have k2 : Keep (fun x => x = a) H1 (upd H1 a (.lst (ws.eraseIdx kk))) := .upd rfl fun u e => by rw [hH1] at e; cases e; rfl
                have hlen : ws.length ≤ 1000000 := by rw [rs.length]; exact hy.2
                refine ⟨a, ws, i, kk, w, rfl, rfl, hH1, by omega, by omega, hix.1, hw, k w _ _ [] (Post.mut (F := []) (G := []) (R := []) (G' := Gj) p.dropR hj hFj hv rfl (.lst upd_same (rs'.keep k2 fun x m e => (List.nodup_cons.mp ndj).1 (e ▸ m))) (fun x m => .inl (by simpa using m)) ndj) (rw'.keep k2 fun _ m => (nomatch m))⟩
              · rw [if_neg hy] at h2; cases h2
        | _ => cases h2
    · exact h σ H δ Fs _ _ E s h1 k
/-- xs[i] = e -/
@[simp] def cSetI (j : Nat) (fe fi : EM D) : EM Fl := fun δ => match lstAt δ j with
  | some _ => EM.bind fe (fun d => EM.bind fi fun i δ => match lstAt δ j, i with
    | some ds, .int n => match ixN ds.length n with
      | some k => some (.ok .nx (δ.set j (some (.list (ds.set k d)))))
      | none => none
    | _, _ => none) δ
  | none => none
theorem ds_setI (n : NmS S j x) (he : DE S e .own M1 f) (hi : DE S i .own M2 g) (hs : ∀ env, swapsWithSole [.Subscript (.Name x p1) i tpos] e pos.line env = pure false) (hw : ∀ env, swappedStores [.Subscript (.Name x p1) i tpos] e env = pure none)
    (ha : ∀ env v, assign (.Subscript (.Name x p1) i tpos) env v = (do
      let ov ← holding [v] (eval (.Name x p1) env)
      let iv ← holding [v, ov] (eval i env)
      standAt tpos
      holding [v, ov, iv] (setItem ov iv v)
      release [v, ov, iv] [])) :
    DS S (.Assign [.Subscript (.Name x p1) i tpos] e pos) ((M1 ++ M2) ++ [j]) [] (cSetI j f g) := fun σ H δ Fs D r E s hf k => by
  refine ⟨_, fun X hX => ps_asg (pe_tB hX) (pg_sub (n.pe (pos := p1) hX) (pe_tB hX) set_list (ha _)) (hs _) (hw _), ?_⟩
  show tB S e σ H fun v H1 => ∃ o, σ[j]? = some (some o) ∧ tB S i σ H1 fun iv H2 => rSetL o iv v H2 fun H3 => D.nx σ H3
  unfold cSetI at hf
  cases q0 : lstAt δ j with
  | none => rw [q0] at hf; cases hf
  | some ds0 =>
    rw [q0] at hf
    dsimp only at hf
    obtain ⟨a, vs, G0, hv, hH, _, _⟩ := slot_list E (lstAt_some q0)
    rcases bind_some hf with ⟨d, δ1, h1, h2⟩ | ⟨x, h1, rfl⟩
    · refine he σ H δ Fs _ _ E s h1 fun v H1 Fs1 F p o => ⟨.ref a, hv, ?_⟩
      rcases bind_some h2 with ⟨iv, δ2, h3, h4⟩ | ⟨x, h3, rfl⟩
      · cases q : lstAt δ2 j with
        | none => rw [q] at h4; cases h4
        | some ds =>
          rw [q] at h4
          cases iv with
          | int nn =>
            dsimp only at h4
            cases q2 : ixN ds.length nn with
            | none => rw [q2] at h4; cases h4
            | some kk =>
              rw [q2] at h4
              cases h4
              refine hi σ H1 δ1 Fs1 _ _ p.env p.sep0 h3 fun w H2 Fs2 F2 p2 o2 => ?_
              have ew := Rep.iInt o2
              subst ew
              have o' := Opn.carry (κ := .own) o p.sep p2 rfl rfl
              have pp := p.comp p2.dropR
              rw [List.append_nil] at pp
              obtain ⟨a', ws, Gj, hv', hH1, rs, hFj⟩ := slot_list p2.env (lstAt_some q)
              rw [hv] at hv'
              cases hv'
              have hj : j < δ2.length := (List.getElem?_eq_some_iff.mp (lstAt_some q)).1
              have hk : kk < ds.length := (ixN_seq q2).2.1
              obtain ⟨F', r1, r2, r3⟩ := rs.setI (List.getElem?_eq_getElem hk) o'
              have ndj := pp.sep.nds j
              rw [hFj] at ndj
              have ndj := List.nodup_cons.mp ndj
              have dj : ∀ y ∈ F, y ∉ a :: Gj := fun y m => by rw [← hFj]; exact pp.sep.dir j y m
              have na : a ∉ F' := fun m => by
                rcases r2 a m with m | m
                · exact ndj.1 m
                · exact dj a m List.mem_cons_self
              have k2 : Keep (fun x => x = a) H2 (upd H2 a (.lst (ws.set kk v))) := .upd rfl fun u e => by rw [hH1] at e; cases e; rfl
              refine ⟨a, ws, nn, kk, rfl, rfl, hH1, by rw [rs.length]; exact q2, k σ _ _ (Post.mut (F := []) (G := F) (R := []) (G' := F') pp hj hFj hv rfl (.lst upd_same (r1.keep k2 fun x m e => na (e ▸ m))) (fun x m => r2 x (by simpa using m)) ?_) .refl⟩
              exact List.nodup_cons.mpr ⟨na, r3 ndj.2 pp.sep.ndr fun y m m' => dj y m' (List.mem_cons_of_mem _ m)⟩
          | _ => cases h4
      · exact hi σ H1 δ1 Fs1 _ _ p.env p.sep0 h3 (XOk.post k p)
    · exact he σ H δ Fs _ _ E s h1 k
/-- xs[i] += n -/
theorem pget_list {X : Cx} : PGet X (rIxL X.K) := by
  intro pins s σ H x y v u Q I rx ry h
  obtain ⟨p, xs, i, z, rfl, rfl, hq, he, q⟩ := h
  cases rx
  obtain ⟨t, rfl⟩ := ry
  obtain ⟨its, r, pl, hz⟩ := I.list hq
  obtain ⟨j, h1, h2, h3, h4, h5⟩ := atI_get he
  obtain ⟨w, ew, rw'⟩ := r.get h2
  have hl := r.length
  have hn := line63
  have fin : EP X pins σ Q w s := ⟨z, H, I, rw', q⟩
  by_cases h0 : 0 ≤ i
  · have hj : i.toNat = j := by
      rw [seqIndex_of h0 h5] at h1
      exact Option.some.inj h1
    exact wpAny_getItem_list pl.isList h0 (by omega) (by rw [hj]; simpa using ew) fin
  · have hj : (i + (its.toArray.size : Int)).toNat = j := by
      rw [seqIndex_neg (by omega) h4] at h1
      rw [List.size_toArray, ← hl]
      exact Option.some.inj h1
    exact wpAny_getItem_list_neg pl.isList (by omega) (by rw [List.size_toArray] <;> omega) (by omega) (by rw [hj]; simpa using ew) fin
@[simp] def cAugSI (j : Nat) (gg : Int → Int → Int) (fi fe : EM D) : EM Fl := fun δ => match lstAt δ j with
  | some _ => EM.bind fi (fun i δ1 => match lstAt δ1 j, i with
    | some ds, .int n => match ixN ds.length n with
      | some k => match ds[k]? with
        | some (.int old) => EM.bind fe (fun d δ2 => match lstAt δ2 j, d with
          | some ds2, .int b => if ds2.length = ds.length then some (.ok .nx (δ2.set j (some (.list (ds2.set k (.int (gg old b))))))) else none
          | _, _ => none) δ1
        | _ => none
      | none => none
    | _, _ => none) δ
  | none => none
theorem ds_augSI {op : Operator} {gg : Int → Int → Int} (n : NmS S j x) (hi : DE S i .own M1 f) (he : DE S e .own M2 g) (hp : ∀ X, PIp X op (ipI gg))
    (ha : ∀ ov iv new, augStore i ov iv new = (do holding [new, ov, iv] (setItem ov iv new); release [new, ov, iv] []; pure .next)) :
    DS S (.AugAssign (.Subscript (.Name x p1) i tpos) op e pos) ((M1 ++ M2) ++ [j]) [] (cAugSI j gg f g) := fun σ H δ Fs D r E s hf k => by
  refine ⟨_, fun X hX => ps_augS (n.pe (pos := p1) hX) (pe_tB hX) (by have := pget_list (X := X); rw [hX.K] at this; exact this) (pe_tB hX) (hp X) set_list ha, ?_⟩
  show ∃ o, σ[j]? = some (some o) ∧ tB S i σ H fun iv H2 => rIxL S.K o iv H2 fun x H3 => tB S e σ H3 fun y H4 => ipI gg x y H4 fun z H5 => rSetL o iv z H5 fun H6 => D.nx σ H6
  unfold cAugSI at hf
  cases q0 : lstAt δ j with
  | none => rw [q0] at hf; cases hf
  | some ds0 =>
    rw [q0] at hf
    dsimp only at hf
    obtain ⟨a, vs, G0, hv, hH, _, _⟩ := slot_list E (lstAt_some q0)
    refine ⟨.ref a, hv, ?_⟩
    rcases bind_some hf with ⟨iv, δ1, h1, h2⟩ | ⟨x, h1, rfl⟩
    · refine hi σ H δ Fs _ _ E s h1 fun w H1 Fs1 F p o => ?_
      cases q : lstAt δ1 j with
      | none => rw [q] at h2; cases h2
      | some ds =>
        rw [q] at h2
        cases iv with
        | int nn =>
          have ew := Rep.iInt o
          subst ew
          dsimp only at h2
          cases q2 : ixN ds.length nn with
          | none => rw [q2] at h2; cases h2
          | some kk =>
            rw [q2] at h2
            dsimp only at h2
            cases q3 : ds[kk]? with
            | none => rw [q3] at h2; cases h2
            | some old =>
              rw [q3] at h2
              cases old with
              | int old =>
                dsimp only at h2
                obtain ⟨a', ws, Gj, hv', hH1, rs, hFj⟩ := slot_list p.env (lstAt_some q)
                rw [hv] at hv'
                cases hv'
                obtain ⟨z, Gz, hz, rz, _⟩ := rs.get q3
                have ez := rz.iInt
                subst ez
                refine ⟨a, ws, nn, .int old, rfl, rfl, sqL_of hH1, by unfold atI; rw [rs.length, q2]; exact hz, ?_⟩
                rcases bind_some h2 with ⟨d, δ2, h3, h4⟩ | ⟨x, h3, rfl⟩
                · refine he σ H1 δ1 Fs1 _ _ p.env p.sep0 h3 fun v H2 Fs2 F2 p2 o2 => ?_
                  cases q4 : lstAt δ2 j with
                  | none => rw [q4] at h4; cases h4
                  | some ds2 =>
                    rw [q4] at h4
                    cases d with
                    | int b =>
                      have ev := Rep.iInt o2
                      subst ev
                      dsimp only at h4
                      by_cases hl : ds2.length = ds.length
                      · rw [if_pos hl] at h4
                        cases h4
                        obtain ⟨a', ws2, Gj2, hv', hH2, rs2, hFj2⟩ := slot_list p2.env (lstAt_some q4)
                        rw [hv] at hv'
                        cases hv'
                        have hj : j < δ2.length := (List.getElem?_eq_some_iff.mp (lstAt_some q4)).1
                        have hk : kk < ds2.length := by rw [hl]; exact (ixN_seq q2).2.1
                        obtain ⟨F', r1, r2, r3⟩ := rs2.setI (List.getElem?_eq_getElem hk) (.int (gg old b))
                        have pp := p.dropR.comp p2.dropR
                        have ndj := pp.sep.nds j
                        rw [hFj2] at ndj
                        have ndj := List.nodup_cons.mp ndj
                        have na : a ∉ F' := fun m => by
                          rcases r2 a m with m | m
                          · exact ndj.1 m
                          · cases m
                        have k2 : Keep (fun x => x = a) H2 (upd H2 a (.lst (ws2.set kk (.int (gg old b))))) := .upd rfl fun u e => by rw [hH2] at e; cases e; rfl
                        refine ⟨old, b, rfl, rfl, a, ws2, nn, kk, rfl, rfl, hH2, by rw [rs2.length, hl]; exact q2, k σ _ _ (Post.mut (F := []) (G := []) (R := []) (G' := F') pp hj hFj2 hv rfl (.lst upd_same (r1.keep k2 fun x m e => na (e ▸ m))) (fun x m => (r2 x (by simpa using m)).imp id fun z => (nomatch z)) ?_) .refl⟩
                        exact List.nodup_cons.mpr ⟨na, r3 ndj.2 List.nodup_nil fun y _ m' => (nomatch m')⟩
                      · rw [if_neg hl] at h4; cases h4
                    | _ => cases h4
                · exact he σ H1 δ1 Fs1 _ _ p.env p.sep0 h3 (XOk.post k p)
              | _ => cases h2
        | _ => cases h2
    · exact hi σ H δ Fs _ _ E s h1 k
end
end DL
/-! DL12: loops; the rule of a def. -/
namespace DL
open PySem PySem.Spec PyProof.Rows L2
variable {S : Sig}
@[simp] def cLoop (t : Tg) (body : EM Fl) : List D → EM Fl
  | [] => fun δ => some (.ok .nx δ)
  | d :: r => fun δ => match bindT t d δ with
    | none => none
    | some δ1 => match body δ1 with
      | some (.ok .nx δ2) => cLoop t body r δ2
      | some (.ok .ct δ2) => cLoop t body r δ2
      | some (.ok .bk δ2) => some (.ok .nx δ2)
      | o => o
@[simp] def cFor (f : EM (List D)) (t : Tg) (body : EM Fl) : EM Fl := EM.bind f fun items => cLoop t body items
theorem ds_for {tg iter : Expr} {body : List Stmt} {pos : Pos} {L M Mb Ab : List Nat} {f : EM (List D)} {t : Tg} {g : EM Fl} (hI : DI S tg iter L M f) (ht : TgOk S tg t) (hb : DSs S body Mb Ab g) (hs : ∀ env x, foldedSetIterable iter env x = pure x)
    (hL : ∀ l ∈ L, l ∉ t.slots ∧ l ∉ Mb) : DS S (.For tg iter body [] pos) (M ++ (t.slots ++ Mb)) (t.slots ++ Ab) (cFor f t g) := fun σ H δ Fs D r E s hf k => by
  obtain ⟨gt, hg, tgq⟩ := ht.ex
  refine ⟨_, fun X hX => ps_for hX.own hX.calm (pi_tB hX) (hg X hX) (pss_tB hX) (hs _), ?_⟩
  show tBI S tg iter σ H fun J H1 => ∃ W : Nat → Nat → L2.St → Hp → Prop, (∃ m, W 0 m σ H1) ∧ ∀ i m σ H, W i m σ H →
    (J.stop i H ∧ D.nx σ H) ∨ (J.go i H ∧ ∃ N : L2.St → Hp → Prop, (∀ σ' H', N σ' H' → ∃ m', m' < m ∧ W (i + 1) m' σ' H') ∧ ∀ x H', J.yld i H x H' → gt x σ H' fun σ2 H2 => tBSs S body { D with nx := N, ct := N, bk := D.nx } σ2 H2)
  rcases bind_some hf with ⟨items, δ1, h1, h2⟩ | ⟨x, h1, rfl⟩
  rotate_left
  · exact hI σ H δ Fs _ _ E s h1 k
  refine hI σ H δ Fs _ _ E s h1 fun J H1 Fs1 Fr G p ito g0 stays => ?_
  let Mt := M ++ (t.slots ++ Mb)
  let At := t.slots ++ Ab
  refine ⟨fun i m σ' H' => m = items.length - i ∧ i ≤ items.length ∧ ∃ δ' Fs', Post S.K Mt H δ Fs σ' H' δ' Fs' Fr ∧ SameA At σ σ' ∧ cLoop t g (items.drop i) δ' = some r ∧ G H' ∧ ∀ l ∈ L, Fs' l = Fs1 l,
    ⟨items.length, by simp, Nat.zero_le _, δ1, Fs1, p.mono fun i m => List.mem_append_left _ m, .refl, h2, g0, fun _ _ => rfl⟩, ?_⟩
  rintro i m σ' H' ⟨rfl, hi, δ', Fs', P, sa, hl, hG, hLs⟩
  by_cases hlt : i < items.length
  rotate_left
  · have ei : i = items.length := by omega
    subst ei
    rw [List.drop_length] at hl
    have hl : some (Out.ok Fl.nx δ') = some r := hl
    cases hl
    exact .inl ⟨ito.stop H' hG, k σ' H' Fs' P.dropR sa⟩
  have hdrop : items.drop i = items[i] :: items.drop (i + 1) := List.drop_eq_getElem_cons hlt
  rw [hdrop] at hl
  unfold cLoop at hl
  cases hbt : bindT t items[i] δ' with
  | none => rw [hbt] at hl; cases hl
  | some δb =>
    rw [hbt] at hl
    dsimp only at hl
    refine .inr ⟨ito.go i H' hlt hG, fun σ'' H'' => ∃ δ' Fs', Post S.K Mt H δ Fs σ'' H'' δ' Fs' Fr ∧ SameA At σ σ'' ∧ cLoop t g (items.drop (i + 1)) δ' = some r ∧ G H'' ∧ ∀ l ∈ L, Fs' l = Fs1 l, fun σ'' H'' hN => ⟨items.length - (i + 1), by omega, rfl, hlt, hN⟩, fun x Hy hy => ?_⟩
    obtain ⟨dx, hdx, nv⟩ := ito.yld i H' x Hy hlt hG hy
    have edx : items[i] = dx := by
      rw [List.getElem?_eq_getElem hlt] at hdx
      exact Option.some.inj hdx
    rw [edx] at hbt
    have Py : Post S.K Mt H δ Fs σ' Hy δ' Fs' Fr := by
      have p0 : Post S.K [] H' δ' Fs' σ' Hy δ' Fs' [] := ⟨P.env.keep nv.keep fun _ _ _ h => h, P.sep0, fun _ m => (nomatch m), fun _ m => (nomatch m), fun _ m => (nomatch m), nv.keep.imp fun _ _ h => h.elim, fun _ _ => ⟨rfl, rfl⟩⟩
      have := P.comp p0
      rw [List.append_nil, List.append_nil] at this
      exact this
    refine tgq x dx σ' Hy _ _ _ nv.rep hbt fun is vsx ds his rps hset => ?_
    have Pb := Post.sets Py rps hset
    generalize hFsb : wipeF is Fs' = Fsb at Pb
    have sab : SameA (At ++ is) σ (setsV is vsx σ') := sa.trans sameA_sets
    have hisM : ∀ j ∈ is, j ∈ t.slots := fun j m => by rw [his]; exact m
    have hLb : ∀ l ∈ L, Fsb l = Fs1 l := fun l m => by
      rw [← hFsb, wipeF_out fun z => (hL l m).1 (hisM l z)]
      exact hLs l m
    cases hbd : g δb with
    | none => rw [hbd] at hl; cases hl
    | some rb =>
      rw [hbd] at hl
      have mM : ∀ j ∈ (Mt ++ is) ++ Mb, j ∈ Mt := fun j m => by
        rcases List.mem_append.mp m with m | m
        · rcases List.mem_append.mp m with m | m
          · exact m
          · exact List.mem_append_right _ (List.mem_append_left _ (hisM j m))
        · exact List.mem_append_right _ (List.mem_append_right _ m)
      have mA : ∀ j ∈ (At ++ is) ++ Ab, j ∈ At := fun j m => by
        rcases List.mem_append.mp m with m | m
        · rcases List.mem_append.mp m with m | m
          · exact m
          · exact List.mem_append_left _ (hisM j m)
        · exact List.mem_append_right _ m
      have next : ∀ {δ2 : DEnv} {σ2 : L2.St} {H2 : Hp} {Fs2 : FT}, cLoop t g (items.drop (i + 1)) δ2 = some r → Post S.K Mb Hy δb Fsb σ2 H2 δ2 Fs2 [] → SameA Ab (setsV is vsx σ') σ2 →
          ∃ δ' Fs', Post S.K Mt H δ Fs σ2 H2 δ' Fs' Fr ∧ SameA At σ σ2 ∧ cLoop t g (items.drop (i + 1)) δ' = some r ∧ G H2 ∧ ∀ l ∈ L, Fs' l = Fs1 l := fun {δ2 σ2 H2 Fs2} hr q sq => by
        have P2 := (Pb.comp q).mono (M' := Mt) mM
        rw [List.append_nil] at P2
        refine ⟨δ2, Fs2, P2, (sab.trans sq).mono mA, hr, ?_, fun l hl => ((q.same l (hL l hl).2).1).trans (hLb l hl)⟩
        exact stays _ _ (InM Mb Fsb) (stays _ _ (fun _ => False) hG nv.keep fun _ b => b.elim) q.keep fun a ⟨j, hj, m⟩ => ⟨fun z => Pb.sep.dir j a z m, fun l hl z => by
          rw [← hLb l hl] at z
          by_cases e : j = l
          · subst e; exact (hL j hl).2 hj
          · exact Pb.sep.dis j l e a m z⟩
      cases rb with
      | ex x =>
        cases hl
        exact hb (setsV is vsx σ') Hy δb Fsb _ _ Pb.env Pb.sep0 hbd (XOk.post k (Pb.mono (M' := Mt) fun j m => mM j (List.mem_append_left _ m)))
      | ok fl δ2 =>
        cases fl with
        | nx => exact hb (setsV is vsx σ') Hy δb Fsb _ _ Pb.env Pb.sep0 hbd fun σ2 H2 Fs2 q sq => next hl q sq
        | ct => exact hb (setsV is vsx σ') Hy δb Fsb _ _ Pb.env Pb.sep0 hbd fun σ2 H2 Fs2 q sq => next hl q sq
        | bk =>
          cases hl
          exact hb (setsV is vsx σ') Hy δb Fsb _ _ Pb.env Pb.sep0 hbd fun σ2 H2 Fs2 q sq => k σ2 H2 Fs2 ((Pb.comp q).dropR.mono mM) ((sab.trans sq).mono mA)
        | rt d =>
          cases hl
          refine hb (setsV is vsx σ') Hy δb Fsb _ _ Pb.env Pb.sep0 hbd fun v σ2 H2 Fs2 F2 q sq rp => ?_
          have P2 := (Pb.comp q).mono (M' := Mt) mM
          have P3 : Post S.K Mt H δ Fs σ2 H2 δ2 Fs2 F2 := ⟨P2.env, P2.sep.right, fun a m => P2.trk a (List.mem_append_right _ m), P2.sub, fun a m => P2.subr a (List.mem_append_right _ m), P2.keep, P2.same⟩
          exact k v σ2 H2 Fs2 F2 P3 ((sab.trans sq).mono mA) rp
/-! ### the rule of a def -/
@[simp] def finArgs (A : List Nat) : Nat → DEnv → DEnv → DEnv
  | _, [], _ => []
  | j, a :: r, δ' => (if A.contains j = true then a else (δ'[j]?).join) :: finArgs A (j + 1) r δ'
theorem finArgs_get {A : List Nat} {δ' : DEnv} : ∀ {δ : DEnv} {b j : Nat}, (finArgs A b δ δ')[j]? = (δ[j]?).map fun a => if A.contains (b + j) = true then a else (δ'[b + j]?).join
  | [], b, j => by simp [finArgs]
  | a :: r, b, 0 => by simp [finArgs]
  | a :: r, b, j + 1 => by
    rw [finArgs]
    simp only [List.getElem?_cons_succ]
    rw [finArgs_get, show b + 1 + j = b + (j + 1) by omega]
@[simp] def immA (A : List Nat) (δ : DEnv) : Bool := A.all (immAt δ)
/-- what a def is worth, by its body -/
@[simp] def fnD (n : Nat) (A : List Nat) (g : EM Fl) : EM D := fun δ => if immA A δ = true then
    match g (δ ++ List.replicate (n - δ.length) none) with
    | some (.ok (.rt d) δ') => some (.ok d (finArgs A 0 δ δ'))
    | some (.ok .nx δ') => some (.ok .none (finArgs A 0 δ δ'))
    | some (.ex x) => some (.ex x)
    | _ => none
  else none
theorem app_none {δ : DEnv} {m i : Nat} {d : D} : (δ ++ List.replicate m none)[i]? = some (some d) ↔ δ[i]? = some (some d) := by
  by_cases h : i < δ.length
  · rw [List.getElem?_append_left h]
  · rw [List.getElem?_append_right (by omega), List.getElem?_eq_none (by omega : δ.length ≤ i), List.getElem?_replicate]
    split <;> simp
theorem start_env {K : PySem.W.Frag} {H : Hp} {vs : List V} {δ : DEnv} {Fp : FT} {N : List Str} (E : EnvR K H (vs.map some) δ Fp) (h : vs.length ≤ N.length) : EnvR K H (L2.start N vs) (δ ++ List.replicate (N.length - δ.length) none) Fp := by
  have hl : vs.length = δ.length := by have := E.len; simpa using this
  refine ⟨by unfold L2.start; simp [hl], fun i d e => ?_, fun i hn => E.no i fun d e => hn d (app_none.mpr e)⟩
  obtain ⟨v, h1, h2⟩ := E.at i d (app_none.mp e)
  refine ⟨v, ?_, h2⟩
  unfold L2.start
  rw [List.getElem?_append_left (by have := (List.getElem?_eq_some_iff.mp h1).1; simpa using this)]
  exact h1
theorem fin_post {K : PySem.W.Frag} {H H' : Hp} {vs : List V} {δ δ' : DEnv} {Fp Fs' : FT} {N : List Str} {M A mp : List Nat} {σ' : L2.St} {Fr : List Addr} (E : EnvR K H (vs.map some) δ Fp) (h : vs.length ≤ N.length) (hA : immA A δ = true) (hmp : ∀ j ∈ M, j < δ.length → j ∈ A ∨ j ∈ mp)
    (p : Post K M H (δ ++ List.replicate (N.length - δ.length) none) Fp σ' H' δ' Fs' Fr) (sa : SameA A (L2.start N vs) σ') :
    Post K mp H δ Fp (vs.map some) H' (finArgs A 0 δ δ') (fun j => if j < δ.length ∧ j ∉ A then Fs' j else []) Fr := by
  have hl : vs.length = δ.length := by have := E.len; simpa using this
  have immF : ∀ j ∈ A, Fp j = [] := fun j m => immAt_nil E (List.all_eq_true.mp hA j m)
  have outF : ∀ j, ¬ j < δ.length → Fp j = [] := fun j m => E.no j fun d e => m (List.getElem?_eq_some_iff.mp e).1
  have inM : ∀ a, InM M Fp a → InM mp Fp a := fun a ⟨j, hj, m⟩ => by
    by_cases h1 : j < δ.length
    · rcases hmp j hj h1 with h2 | h2
      · rw [immF j h2] at m; cases m
      · exact ⟨j, h2, m⟩
    · rw [outF j h1] at m; cases m
  have get : ∀ j, (finArgs A 0 δ δ')[j]? = (δ[j]?).map fun a => if A.contains j = true then a else (δ'[j]?).join := fun j => by
    rw [finArgs_get]; simp
  have stj : ∀ j, j < δ.length → (L2.start N vs)[j]? = (vs.map some)[j]? := fun j hj => by
    unfold L2.start
    rw [List.getElem?_append_left (by rw [List.length_map]; omega)]
  have fl : (finArgs A 0 δ δ').length = δ.length := by
    have : ∀ (δ : DEnv) (b : Nat), (finArgs A b δ δ').length = δ.length := fun δ => by
      induction δ with
      | nil => intro b; rfl
      | cons a r ih => intro b; rw [finArgs, List.length_cons, List.length_cons, ih]
    exact this δ 0
  refine ⟨⟨by rw [List.length_map, fl, hl], fun j d e => ?_, fun j hn => ?_⟩, ⟨p.sep.ndr, fun j => ?_, fun i j n a m => ?_, fun j a m => ?_⟩, p.trk, fun j hj a m => ?_, fun a m => (p.subr a m).imp (inM a) id, p.keep.imp fun a _ => inM a, fun j hj => ?_⟩
  · rw [get] at e
    cases e1 : δ[j]? with
    | none => rw [e1] at e; cases e
    | some x =>
      have hj : j < δ.length := (List.getElem?_eq_some_iff.mp e1).1
      rw [e1] at e
      have e : (if A.contains j = true then x else (δ'[j]?).join) = some d := Option.some.inj e
      by_cases hA' : j ∈ A
      · rw [if_pos (by simpa using hA')] at e
        subst e
        obtain ⟨v, h1, h2⟩ := E.at j d e1
        rw [immF j hA'] at h2
        refine ⟨v, h1, ?_⟩
        show Rep K H' v d (if j < δ.length ∧ j ∉ A then Fs' j else [])
        rw [if_neg fun z => z.2 hA']
        exact h2.keep p.keep fun _ m => (nomatch m)
      · rw [if_neg (by simpa using hA')] at e
        have e3 : δ'[j]? = some (some d) := by
          cases h : δ'[j]? with
          | none => rw [h] at e; cases e
          | some x => rw [h] at e; exact congrArg some e
        obtain ⟨v, h1, h2⟩ := p.env.at j d e3
        rw [sa j hA', stj j hj] at h1
        refine ⟨v, h1, ?_⟩
        show Rep K H' v d (if j < δ.length ∧ j ∉ A then Fs' j else [])
        rw [if_pos ⟨hj, hA'⟩]
        exact h2
  · show (if j < δ.length ∧ j ∉ A then Fs' j else []) = []
    by_cases hc : j < δ.length ∧ j ∉ A
    · rw [if_pos hc]
      refine p.env.no j fun d e => hn d ?_
      rw [get, List.getElem?_eq_getElem hc.1]
      show some (if A.contains j = true then _ else (δ'[j]?).join) = _
      rw [if_neg (by simpa using hc.2), e]
      rfl
    · rw [if_neg hc]
  · show (if j < δ.length ∧ j ∉ A then Fs' j else []).Nodup
    split
    · exact p.sep.nds j
    · exact List.nodup_nil
  · have m : a ∈ (if i < δ.length ∧ i ∉ A then Fs' i else []) := m
    show a ∉ (if j < δ.length ∧ j ∉ A then Fs' j else [])
    split at m
    · split
      · exact p.sep.dis i j n a m
      · exact fun z => (nomatch z)
    · cases m
  · show a ∉ (if j < δ.length ∧ j ∉ A then Fs' j else [])
    split
    · exact p.sep.dir j a m
    · exact fun z => (nomatch z)
  · have m : a ∈ (if j < δ.length ∧ j ∉ A then Fs' j else []) := m
    split at m
    · by_cases hm : j ∈ M
      · exact (p.sub j hm a m).imp (inM a) id
      · rw [(p.same j hm).1] at m
        exact .inl ⟨j, hj, m⟩
    · cases m
  · refine ⟨?_, ?_⟩
    · show (if j < δ.length ∧ j ∉ A then Fs' j else []) = Fp j
      by_cases hc : j < δ.length ∧ j ∉ A
      · rw [if_pos hc]
        have hm : j ∉ M := fun z => (hmp j z hc.1).elim hc.2 hj
        exact (p.same j hm).1
      · rw [if_neg hc]
        by_cases h1 : j < δ.length
        · exact (immF j (Classical.byContradiction fun z => hc ⟨h1, z⟩)).symm
        · exact (outF j h1).symm
    · rw [get]
      cases e1 : δ[j]? with
      | none => rfl
      | some x =>
        have h1 : j < δ.length := (List.getElem?_eq_some_iff.mp e1).1
        show some (if A.contains j = true then x else (δ'[j]?).join) = some x
        by_cases hA' : j ∈ A
        · rw [if_pos (by simpa using hA')]
        · rw [if_neg (by simpa using hA')]
          have hm : j ∉ M := fun z => (hmp j z h1).elim hA' hj
          have := (p.same j hm).2
          rw [List.getElem?_append_left h1, e1] at this
          rw [this]
          rfl
theorem fn_rule {P : Program} {w : World} {K : PySem.W.Frag} {mg : Str → Option Value} {base : Heap} {x qual : Str} {st : Stmt} {f : Addr} {fd : FuncData} {N ps : List Str} {k n np : Nat} {M A mp : List Nat} {g : EM Fl}
    (F : Fun K x qual st f fd) (Sc : FnScope N ps (defScope st)) (hb : ∀ E, DSs ⟨P, w, K, mg, base, N, defScope st, fun _ => true, k, E⟩ (defBody st) M A g) (hn : N.length = n) (hp : ps.length = np) (hpn : np ≤ n) (hmp : ∀ j ∈ M, j < np → j ∈ A ∨ j ∈ mp) :
    FnOk P w K mg base (L2.CX P w) (k + 1) f fd ps (Prom K mg (fnD n A g) mp np) := by
  refine F.okX Sc (fun vs H Q E h => h.1.trans hp.symm) fun cdv Ar outer s H vs Q E hr h => ?_
  obtain ⟨hl, δ, Fp, r, En, sp, hF, kk⟩ := h
  have hfit : Fits ⟨P, w, K, mg, base, N, defScope st, fun _ => true, k, E⟩ (cxOf (L2.CX P w) P w K mg base N qual (defScope st) f cdv Ar outer s H E) :=
    ⟨rfl, rfl, rfl, rfl, rfl, rfl, rfl, fun _ _ => rfl, hr, rfl, takes_of rfl rfl rfl rfl, passes_of rfl⟩
  refine ⟨_, pss_tB hfit, ?_⟩
  have hlv : vs.length = δ.length := by have := En.len; simpa using this
  have hN : vs.length ≤ N.length := by omega
  unfold fnD at hF
  by_cases hA : immA A δ = true
  · rw [if_pos hA] at hF
    rw [← hn] at hF
    have hmp' : ∀ j ∈ M, j < δ.length → j ∈ A ∨ j ∈ mp := fun j m h => hmp j m (by omega)
    cases e : g (δ ++ List.replicate (N.length - δ.length) none) with
    | none => rw [e] at hF; cases hF
    | some rb =>
      rw [e] at hF
      cases rb with
      | ex x =>
        cases hF
        exact hb E (L2.start N vs) H _ Fp _ _ (start_env En hN) sp e kk
      | ok fl δ' =>
        cases fl with
        | nx =>
          cases hF
          exact hb E (L2.start N vs) H _ Fp _ _ (start_env En hN) sp e fun σ' H' Fs' p sa => kk .non H' _ [] (fin_post En hN hA hmp' p sa) .non
        | rt d =>
          cases hF
          exact hb E (L2.start N vs) H _ Fp _ _ (start_env En hN) sp e fun v σ' H' Fs' Fr p sa rp => kk v H' _ Fr (fin_post En hN hA hmp' p sa) rp
        | bk => cases hF
        | ct => cases hF
  · rw [if_neg hA] at hF; cases hF
theorem FnI.mk' {P : Program} {w : World} {K : PySem.W.Frag} {mg : Str → Option Value} {base : Heap} {x qual : Str} {st : Stmt} {f : Addr} {fd : FuncData} {ps : List Str} {F : EM D} {mp : List Nat} {n k : Nat} (Fu : Fun K x qual st f fd) (ok : FnOk P w K mg base (L2.CX P w) k f fd ps (Prom K mg F mp n)) (hm : mg x = some (.ref f))
    (b : Binds K fd ps []) : FnI P w K mg base x F mp n k := ⟨f, fd, ps, ok, hm, Fu.kp, b⟩
end DL
/-! DL13: list(reversed(xs)). -/
namespace DL
open PySem PySem.Spec PyProof.Rows L2 RT
section
variable {prog : Program} {w : World} {A : Around} {E : Value → Shared → Prop} {s : Shared}
theorem extend_rev {R : Result → Shared → Prop} {it l : Addr} {items : Array Value} (hh : A.handled = none) (hit : s.heap.IsRevIter it l ((items.size : Int) - 1)) (hl : s.heap.IsList l items) (hne : l ≠ it) (hn : items.size ≤ sizeLine)
    (S : Addr) (res : Value) (c₀ : Nat) (hS : s.heap.get? S = some { cls := .type "list", data := .seq #[] c₀ }) (hSi : S ≠ it) (hSl : S ≠ l)
    (hR : ∀ (h' : Heap) (tk : Nat) (acc : Array Value) (c' : Nat), (∀ b o, b ≠ S → b ≠ it → s.heap.get? b = some o → h'.get? b = some o) → h'.get? S = some { cls := .type "list", dict := none, data := .seq acc c', slots := #[] } →
      ItemsOf (fun i v => items[items.size - 1 - i]? = some v) acc items.size → R (.ok (.ret res)) { s with heap := h', toks := tk }) :
    wpAny (model prog w) A.in1 (Builtin.List.listExtendWith (.ref S) (.ref it) res)
      (fun fin s' => match fin with | .done f => R (.ok f) s' | .again c' => c'.quiet = true ∧ codeAny (model prog w) A c' R s') (fun e s' => R (.error e) s') s := by
  have W := (Walks.listRev (prog := prog) (w := w) (A := A.in1) hh it l hne items).toS
  have hSf : S ∉ [it, l] := by simp only [List.mem_cons, List.not_mem_nil, or_false, not_or]; exact ⟨hSi, hSl⟩
  have hT : s.TypeIs (.ref it) "list_reverseiterator" := Heap.IsRevIter.typeIs hit
  have h1 : Builtin.List.listSameRef (.ref S) (.ref it) = false := by simp [Builtin.List.listSameRef, hSi]
  unfold Builtin.List.listExtendWith
  refine wpAny_bind (wpAny_typeOf hT ?_)
  rw [if_neg (by rw [h1]; decide)]
  refine wpAny_bind (wpAny_pyIter_revIter hit ?_)
  refine wpAny_bind (wpAny_holding ?_)
  unfold Builtin.List.listLengthHint
  refine wpAny_bind (wpAny_specialOf hT nolen_lri ?_)
  show wpAny _ A.in1 (specialOf (Value.ref it) (Str.ofString "__length_hint__") >>= _) _ _ _
  refine wpAny_bind (wpAny_specialOf hT hint_lri ?_)
  generalize hid : ("list_reverseiterator.__length_hint__" : String) = id0
  wp_delta
  rw [show splitId id0 = some ("list_reverseiterator", "__length_hint__") from by subst hid; decide +kernel]
  subst hid
  refine wpAny_bind (wpAny_isInstance (b := true) hT (by rw [isSubtype_type]; kernel_rfl) ?_)
  refine wpAny_pure ?_
  rw [if_neg (by decide)]
  have e0 : ((items.size : Nat) : Int) - 1 - ((0 : Nat) : Int) = (items.size : Int) - 1 := by omega
  refine wpAny_pure ⟨plainId_quiet F.plain_extend_loop _, codeAny_extend_loopS W hn S hSf res items.size 0 _ _ _ rfl (Nat.zero_le _) ⟨Nat.zero_le _, by rw [e0]; exact hit, hl⟩ hS (ItemsOf.nil _) fun s' acc' c' hm hS' hacc => ?_⟩
  rw [Moved.eq_with hm]
  refine hR s'.heap s'.toks acc' c' (fun b o hb hbi e => hm.heap b o (fun hmem => ?_) e) hS' hacc
  rcases List.mem_cons.mp hmem with e' | hmem
  · exact hb e'
  · exact hbi (List.mem_singleton.mp hmem)
theorem call_list_revIter {Q : Value → Shared → Prop} {it l : Addr} {items : Array Value} (hh : A.handled = none) (hit : s.heap.IsRevIter it l ((items.size : Int) - 1)) (hl : s.heap.IsList l items) (hne : l ≠ it) (hn : items.size ≤ sizeLine)
    (hQ : ∀ (h' : Heap) (tk : Nat) (acc : Array Value) (c' : Nat), (∀ b o, b ≠ it → s.heap.get? b = some o → h'.get? b = some o) → h'.get? s.heap.objs.size = some { cls := .type "list", dict := none, data := .seq acc c', slots := #[] } →
      ItemsOf (fun i v => items[items.size - 1 - i]? = some v) acc items.size → Q (.ref s.heap.objs.size) { s with heap := h', toks := tk }) :
    wpAny (model prog w) A (call (.type "list") [.ref it]) Q E s := by
  obtain ⟨oi, hoi, _⟩ := id hit
  obtain ⟨ol, hol, _⟩ := id hl
  refine callType_codes (Q₁ := fun obj s₁ => obj = .ref s.heap.objs.size ∧ s₁ = { s with heap := s.heap.push { cls := .type "list", data := .seq #[] } }) F.called_list (F.typeCall_list_1 _) F.entry_list_init
    (code_list_new _ ⟨rfl, rfl⟩) fun obj s₁ h₁ => ?_
  obtain ⟨rfl, rfl⟩ := h₁
  have hS : (s.heap.push { cls := .type "list", data := .seq #[] }).get? s.heap.objs.size = some { cls := .type "list", data := .seq #[] } := Heap.get?_push_size _ rfl
  have hSi : s.heap.objs.size ≠ it := Nat.ne_of_gt (Heap.lt_size hoi)
  have hSl : s.heap.objs.size ≠ l := Nat.ne_of_gt (Heap.lt_size hol)
  refine ⟨⟨_, hS, rfl⟩, F.args_list_init_2 _ _, ?_⟩
  show wpAny _ _ (do let old ← Builtin.List.listItems (.ref s.heap.objs.size); Builtin.List.listUpdate (.ref s.heap.objs.size) (fun _ => #[]); letGo old.toList.reverse; Builtin.List.listExtendWith (.ref s.heap.objs.size) (.ref it) .none) _ _ _
  refine wpAny_bind ?_
  unfold Builtin.List.listItems
  refine wpAny_bind (wpAny_seqItems hS rfl (wpAny_pure ?_))
  show wpAny _ _ (updateSeq s.heap.objs.size (fun _ => #[]) >>= fun _ => letGo (#[] : Array Value).toList.reverse >>= fun _ => Builtin.List.listExtendWith (.ref s.heap.objs.size) (.ref it) .none) _ _ _
  refine wpAny_bind (wpAny_updateSeq hS rfl ?_)
  have hS₂ := Heap.get?_update_self (Obj.mapSeq (fun _ => (#[] : Array Value))) hS rfl
  have oth : ∀ b o, b ≠ s.heap.objs.size → s.heap.get? b = some o → ((s.heap.push { cls := .type "list", data := .seq #[] }).update s.heap.objs.size (Obj.mapSeq (fun _ => (#[] : Array Value)))).get? b = some o :=
    fun b o hb e => (Heap.get?_update_other _ _ (Ne.symm hb)).trans (Heap.get?_push_of_some _ e)
  refine wpAny_bind (wpAny_letGo ?_)
  refine extend_rev (A := A.in1) (s := { s with heap := (s.heap.push { cls := .type "list", data := .seq #[] }).update s.heap.objs.size (Obj.mapSeq (fun _ => (#[] : Array Value))) }) hh (hit.at fun o e => oth it o (Ne.symm hSi) e) ?_ hne hn _ .none _ hS₂ hSi hSl fun h' tk acc c' hk hS' hacc => ?_
  · obtain ⟨o, e, r⟩ := hl
    exact ⟨o, oth l o (Ne.symm hSl) e, r⟩
  · exact ⟨rfl, hQ h' tk acc c' (fun b o hb e => hk b o (Nat.ne_of_lt (Heap.lt_size e)) hb (oth b o (Nat.ne_of_lt (Heap.lt_size e)) e)) hS' hacc⟩
end
/-- list(reversed(e)) of a list -/
theorem pe_listRev {X : Cx} {e : Expr} {te : TE} {p1 p2 pos pos2 : Pos} (hg : Gl X "list") (hm : X.mg "list" = none) (hg2 : Gl X "reversed") (hm2 : X.mg "reversed" = none) (hcalm : X.calm = true) (he : PE X e te)
    (hs : starEach [e] X.env = [(false, eval e X.env)]) (hs2 : starEach [.Call (.Name "reversed" p2) [e] [] pos2] X.env = [(false, eval (.Call (.Name "reversed" p2) [e] [] pos2) X.env)]) :
    PE X (.Call (.Name "list" p1) [.Call (.Name "reversed" p2) [e] [] pos2] [] pos) (fun σ H Q => te σ H fun x H1 => ∃ a vs, x = .ref a ∧ SqL X.K H1 a vs ∧ ∀ l, H1 l = none → Q (.ref l) (upd H1 l (.lst vs.reverse))) := by
  refine ⟨fun pins s σ H Q I h => ?_⟩
  refine wpAny_Call_Name_kw (ld_blt I hg hm PyProof.Rows.boot_list ?_)
  refine PyProof.Rows.callWith_type1 ?_ hs2 rfl
  rw [hs2]
  show wpAny _ _ (spliced ((false, eval (.Call (.Name "reversed" p2) [e] [] pos2) X.env) :: [])) _ _ s
  refine Calls.spliced_cons ?_
  refine wpAny_Call_Name_kw (ld_blt I hg2 hm2 PyProof.Rows.boot_reversed ?_)
  refine PyProof.Rows.callWith_type1 ?_ hs rfl
  rw [hs]
  show wpAny _ _ (spliced ((false, eval e X.env) :: [])) _ _ s
  refine Calls.spliced_cons (thn (he.run pins s σ H _ I h) fun u s1 ⟨x, H1, I1, r1, a, vs, ex, hq, q⟩ => Calls.spliced_nil ?_)
  subst ex
  cases r1
  obtain ⟨its, rv, p', hz⟩ := I1.list hq
  have hvl := rv.length
  refine call_reversed_list p'.isList ?_
  refine Calls.spliced_nil ?_
  have I2 : Inv X pins σ H1 { s1 with heap := s1.heap.push (revObj a ((its.toArray.size : Int) - 1)) } := I1.kept (t' := s1.toks) fun b ob e => Heap.get?_push_of_some _ e
  have hit : (s1.heap.push (revObj a ((its.toArray.size : Int) - 1))).IsRevIter s1.heap.objs.size a ((its.toArray.size : Int) - 1) := ⟨_, Heap.get?_push_size _ rfl, rfl, rfl⟩
  have hl2 : (s1.heap.push (revObj a ((its.toArray.size : Int) - 1))).IsList a its.toArray := p'.isList.push _
  obtain ⟨oa, hoa, _⟩ := id p'.isList
  have hne : a ≠ s1.heap.objs.size := Nat.ne_of_lt (Heap.lt_size hoa)
  refine call_list_revIter (s := { s1 with heap := s1.heap.push (revObj a ((its.toArray.size : Int) - 1)) }) (I2.ok.hd hcalm) hit hl2 hne (by rw [List.size_toArray, ← hvl]; omega) fun h' tk acc c' kp e hacc => ?_
  have hsz : (s1.heap.push (revObj a ((its.toArray.size : Int) - 1))).objs.size = s1.heap.objs.size + 1 := Heap.size_push _ _
  have eacc : acc.toList = its.reverse := by
    apply List.ext_getElem?
    intro j
    by_cases hj : j < acc.size
    · have h1 := hacc.2 j acc[j] (by simp [hj])
      have hj2 : j < its.length := by have := hacc.1; simp at this; omega
      rw [Array.getElem?_toList, Array.getElem?_eq_getElem hj, ← h1, List.getElem?_reverse hj2]
      simp
    · have h2 : its.length ≤ j := by have := hacc.1; simp at this; omega
      rw [List.getElem?_eq_none (by simpa using hj), List.getElem?_eq_none (by simpa using h2)]
  have rvr : Vals vs.reverse acc.toList := by
    rw [eacc]
    have : ∀ {xs : List V} {us : List Value}, Vals xs us → Vals xs.reverse us.reverse := fun r => by
      induction r with
      | nil => exact .nil
      | cons a t ih =>
        rw [List.reverse_cons, List.reverse_cons]
        exact ih.append (.cons a .nil)
    exact this rv
  have new : ObjOk X.prog X.w (upd H1 (s1.heap.push (revObj a ((its.toArray.size : Int) - 1))).objs.size (.lst vs.reverse)) h' (s1.heap.push (revObj a ((its.toArray.size : Int) - 1))).objs.size (.lst vs.reverse) :=
    ⟨by rw [List.length_reverse]; omega, acc.toList, c', rvr, by rw [e]⟩
  have I3 := I2.turnedNew (h' := h') (t' := tk) (ch := [s1.heap.objs.size]) (fun b ob hb q => kp b ob (by simpa using hb) q) (fun b hb => by
    have eb : b = s1.heap.objs.size := by simpa using hb
    subst eb
    exact I1.fpOk (Nat.le_refl _) (I1.hok.fresh (Nat.le_refl _))) (Nat.le_refl _) new
  exact ⟨.ref _, _, I3, rfl, q _ (I1.hok.fresh (by rw [hsz]; omega))⟩
variable {S : Sig}
@[simp] def gListRev : List D → Option D
  | [.list ds] => if imms ds = true then some (.list ds.reverse) else none
  | _ => none
theorem Reps.rev {K : PySem.W.Frag} {H : Hp} : ∀ {ds : List D} {vs : List V}, Reps K H vs ds [] → Reps K H vs.reverse ds.reverse []
  | [], vs, r => by
    have := r.length
    have e : vs = [] := List.eq_nil_of_length_eq_zero this
    subst e
    exact .nil
  | d :: ds, vs, r => by
    generalize e : ([] : List Addr) = F at r
    cases r with
    | @cons v _ F1 vs _ G1 r1 rt =>
      have e1 : F1 = [] ∧ G1 = [] := List.append_eq_nil_iff.mp e.symm
      obtain ⟨rfl, rfl⟩ := e1
      rw [List.reverse_cons, List.reverse_cons]
      have := (Reps.rev rt).append (.cons r1 .nil)
      simpa using this
theorem de_listRev {a : Expr} {p1 p2 pos pos2 : Pos} {κs : List Kd} {M : List Nat} {f : EM (List D)} (n : BtS S "list") (n2 : BtS S "reversed") (hA : DA S [a] κs M f) (hp : Plain [a]) (hp2 : Plain [.Call (.Name "reversed" p2) [a] [] pos2]) :
    DE S (.Call (.Name "list" p1) [.Call (.Name "reversed" p2) [a] [] pos2] [] pos) .own M (cV f gListRev) := by
  have g : ∀ X, Fits S X → PE X (.Call (.Name "list" p1) [.Call (.Name "reversed" p2) [a] [] pos2] [] pos) (fun σ H Q => tBA S [a] σ H fun vs H1 => l1 (fun x H1 Q => ∃ a vs, x = .ref a ∧ SqL S.K H1 a vs ∧ ∀ l, H1 l = none → Q (.ref l) (upd H1 l (.lst vs.reverse))) vs H1 Q) := fun X hX => by
    have := pe_listRev (p1 := p1) (p2 := p2) (pos := pos) (pos2 := pos2) (n.g hX) (n.m hX) (n2.g hX) (n2.m hX) hX.calm (pe_tB (e := a) hX) (hp.1 _) (hp2.1 _)
    rw [hX.K] at this
    exact this
  refine de_v hA ⟨_, g⟩ fun ds dz h => ?_
  unfold gListRev at h
  split at h
  · split at h
    · rename_i hi
      cases h
      refine ⟨_, g, fun H vs F Q r k => ?_⟩
      obtain ⟨v, _, rfl, r1⟩ := r.i1
      obtain ⟨q, ws, G, rfl, hq, s⟩ := lst_read r1
      exact ⟨q, ws, rfl, hq, fun l hl => k _ _ _ (NewV.lst hl (s.imm' hi).rev)⟩
    · cases h
  · cases h
end DL
/-! DL14: constants of the module; all, any, sum; methods of texts; is None as a test; weaker lists of slots. -/
namespace DL
open PySem PySem.Spec PyProof.Rows L2
variable {S : Sig}
theorem DSs.mono {sts : List Stmt} {M M' A A' : List Nat} {g : EM Fl} (h : DSs S sts M A g) (hM : ∀ i ∈ M, i ∈ M') (hA : ∀ i ∈ A, i ∈ A') : DSs S sts M' A' g := fun σ H δ Fs D r E s hf k => h σ H δ Fs D r E s hf (k.mono hM hA)
theorem DSs.monoD {sts : List Stmt} {M M' A A' : List Nat} {g : EM Fl} (h : DSs S sts M A g) (hM : (M.all fun i => M'.contains i) = true) (hA : (A.all fun i => A'.contains i) = true) : DSs S sts M' A' g :=
  h.mono (fun i m => by have := List.all_eq_true.mp hM i m; simpa using this) fun i m => by have := List.all_eq_true.mp hA i m; simpa using this
/-- a constant of the module's top -/
structure GlobS (mg : Str → Option Value) (K : PySem.W.Frag) (x : Str) (d : D) : Prop where
  ex : ∃ u v, mg x = some u ∧ RelV v u ∧ ∀ H, Rep K H v d []
theorem de_glob {x : Str} {d : D} {pos : Pos} (g : GlobS S.mg S.K x d) (gl : S.sc.names.lookup x = some .globalImplicit) (hdb : (x == ("__debug__" : Str)) = false := by decide) : DE S (.Name x pos) .own [] (cC d) := by
  obtain ⟨u, v, hm, r, rep⟩ := g.ex
  exact de_const (fun X hX => pe_glob (by show X.env.scope.names.lookup x = _; rw [hX.sc]; exact gl) (by rw [hX.mg]; exact hm) r hdb) rep
section
variable {a : Expr} {pos p : Pos} {κ : Kd} {κs : List Kd} {M : List Nat} {f : EM (List D)}
@[simp] def boolsD : List D → Option (List Bool)
  | [] => some []
  | .bool b :: r => (boolsD r).map (b :: ·)
  | _ => none
theorem bools_V {K : PySem.W.Frag} {H : Hp} : ∀ {ds : List D} {vs : List V} {F : List Addr} {bs : List Bool}, Reps K H vs ds F → boolsD ds = some bs → vs = bs.map V.bl
  | [], _, _, _, r, h => by cases r; cases h; rfl
  | d :: ds, _, _, bs, r, h => by
    cases r with
    | cons r1 rt =>
      cases d with
      | bool b =>
        unfold boolsD at h
        cases e : boolsD ds with
        | none => rw [e] at h; cases h
        | some cs =>
          rw [e] at h
          cases h
          rw [r1.iBl, bools_V rt e]
          rfl
      | _ => cases h
@[simp] def gAll : List D → Option D
  | [.list ds] => (boolsD ds).map fun bs => .bool (bs.all id)
  | _ => none
@[simp] def gAny : List D → Option D
  | [.list ds] => (boolsD ds).map fun bs => .bool (bs.any id)
  | _ => none
theorem de_all (n : BtS S "all") (hA : DA S [a] κs M f) (hp : Plain [a]) : DE S (.Call (.Name "all" p) [a] [] pos) .own M (cV f gAll) := by
  have g : ∀ X, Fits S X → PE X (.Call (.Name "all" p) [a] [] pos) (fun σ H Q => tBA S [a] σ H fun vs H1 => rAll S.K vs H1 Q) := f_callB n (fun X h => by have e := cr_all (X := X) h.calm; rw [h.K] at e; exact e) (by decide +kernel) hp
  refine de_v hA ⟨_, g⟩ fun ds dz h => ?_
  unfold gAll at h
  split at h
  · rename_i xs
    cases e : boolsD xs with
    | none => rw [e] at h; cases h
    | some bs =>
      rw [e] at h
      cases h
      refine ⟨_, g, fun H vs F Q r k => ?_⟩
      obtain ⟨v, _, rfl, r1⟩ := r.i1
      obtain ⟨q, ws, G, rfl, hq, s⟩ := lst_read r1
      have ew := bools_V s e
      subst ew
      exact ⟨q, bs, rfl, hq, k _ _ _ (.same (.bl _))⟩
  · cases h
theorem de_any (n : BtS S "any") (hA : DA S [a] κs M f) (hp : Plain [a]) : DE S (.Call (.Name "any" p) [a] [] pos) .own M (cV f gAny) := by
  have g : ∀ X, Fits S X → PE X (.Call (.Name "any" p) [a] [] pos) (fun σ H Q => tBA S [a] σ H fun vs H1 => rAny S.K vs H1 Q) := f_callB n (fun X h => by have e := cr_any (X := X) h.calm; rw [h.K] at e; exact e) (by decide +kernel) hp
  refine de_v hA ⟨_, g⟩ fun ds dz h => ?_
  unfold gAny at h
  split at h
  · rename_i xs
    cases e : boolsD xs with
    | none => rw [e] at h; cases h
    | some bs =>
      rw [e] at h
      cases h
      refine ⟨_, g, fun H vs F Q r k => ?_⟩
      obtain ⟨v, _, rfl, r1⟩ := r.i1
      obtain ⟨q, ws, G, rfl, hq, s⟩ := lst_read r1
      have ew := bools_V s e
      subst ew
      exact ⟨q, bs, rfl, hq, k _ _ _ (.same (.bl _))⟩
  · cases h
@[simp] def intsD : List D → Option (List Int)
  | [] => some []
  | .int b :: r => (intsD r).map (b :: ·)
  | _ => none
theorem ints_V {K : PySem.W.Frag} {H : Hp} : ∀ {ds : List D} {vs : List V} {F : List Addr} {bs : List Int}, Reps K H vs ds F → intsD ds = some bs → vs = bs.map V.int
  | [], _, _, _, r, h => by cases r; cases h; rfl
  | d :: ds, _, _, bs, r, h => by
    cases r with
    | cons r1 rt =>
      cases d with
      | int b =>
        unfold intsD at h
        cases e : intsD ds with
        | none => rw [e] at h; cases h
        | some cs =>
          rw [e] at h
          cases h
          rw [r1.iInt, ints_V rt e]
          rfl
      | _ => cases h
@[simp] def gSum : List D → Option D
  | [.list ds] => (intsD ds).map fun bs => .int bs.sum
  | _ => none
theorem de_sum (n : BtS S "sum") (hA : DA S [a] κs M f) (hp : Plain [a]) : DE S (.Call (.Name "sum" p) [a] [] pos) .own M (cV f gSum) := by
  have g : ∀ X, Fits S X → PE X (.Call (.Name "sum" p) [a] [] pos) (fun σ H Q => tBA S [a] σ H fun vs H1 => rSum S.K vs H1 Q) := f_callB n (fun X h => by have e := cr_sum (X := X) h.calm; rw [h.K] at e; exact e) (by decide +kernel) hp
  refine de_v hA ⟨_, g⟩ fun ds dz h => ?_
  unfold gSum at h
  split at h
  · rename_i xs
    cases e : intsD xs with
    | none => rw [e] at h; cases h
    | some bs =>
      rw [e] at h
      cases h
      refine ⟨_, g, fun H vs F Q r k => ?_⟩
      obtain ⟨v, _, rfl, r1⟩ := r.i1
      obtain ⟨q, ws, G, rfl, hq, s⟩ := lst_read r1
      have ew := ints_V s e
      subst ew
      exact ⟨q, bs, rfl, hq, k _ _ _ (.same (.int _))⟩
  · cases h
/-! methods of texts -/
@[simp] def gUpper : List D → Option D
  | [.str z] => if z.length ≤ 1000000 then some (.str (Txt.upper z)) else none
  | _ => none
theorem de_upper {apos : Pos} (hA : DA S [a] κs M f) (hbase : ∀ env, attributeBase a "upper" env (eval a env) = eval a env) (hline : (apos.endLine == pos.line) = true) : DE S (.Call (.Attribute a "upper" apos) [] [] pos) .own M (cV f gUpper) := by
  have g : ∀ X, Fits S X → PE X (.Call (.Attribute a "upper" apos) [] [] pos) (fun σ H Q => tBA S [a] σ H fun vs H1 => l1 (fun x H1 Q => (∃ a, x = V.str a) ∧ ∃ a, x = V.str a ∧ ([] : List V) = [] ∧ a.length ≤ 5592405 ∧ Q (.str (Txt.upper a)) H1) vs H1 Q) := fun X hX => pe_upper (pe_tB hX) (hbase _) hline
  refine de_v hA ⟨_, g⟩ fun ds dz h => ?_
  unfold gUpper at h
  split at h
  · split at h
    · rename_i z hl
      cases h
      refine ⟨_, g, fun H vs F Q r k => ?_⟩
      obtain ⟨v, _, rfl, r1⟩ := r.i1
      exact ⟨⟨z, r1.iStr⟩, z, r1.iStr, rfl, by omega, k _ _ _ (.same (.str _))⟩
    · cases h
  · cases h
def gSplit : List D → Option D
  | [.str a, .str b] => if (b.length == 0) = false ∧ a.length ≤ 1000000 ∧ (Txt.split a b).length ≤ 1000000 then some (.list ((Txt.split a b).map PyData.str)) else none
  | _ => none
theorem reps_strs {K : PySem.W.Frag} {H : Hp} : ∀ {xs : List Str}, Reps K H (xs.map V.str) (xs.map PyData.str) []
  | [] => .nil
  | x :: r => .cons (F := []) (.str x) reps_strs
theorem de_split {b : Expr} {apos : Pos} (hA : DA S [a, b] κs M f) (hp : Plain [b]) (hbase : ∀ env, attributeBase a "split" env (eval a env) = eval a env) (hline : (apos.endLine == pos.line) = true)
    (hc : ∀ X, Fits S X → PE X (.Call (.Attribute a "split" apos) [b] [] pos) (tM1 (fun x xs H Q => ∃ a b, x = .str a ∧ xs = [.str b] ∧ (b.length == 0) = false ∧ a.length + 2 ≤ sizeLine ∧ rNewStrs (Txt.split a b) H Q) (tB S a) (tB S b))) : True := trivial
end
/-! tests x is None, x is not None -/
theorem dt_isN {a : Expr} {κ : Kd} {M : List Nat} {f : EM D} {j : Nat} {pos pos' : Pos} (h : DE S a κ M f) : DT S (.Compare a [.Is] [.Constant .none j pos'] pos) M (EM.bind f fun d δ => some (.ok (isN d) δ)) := fun σ H δ Fs Q r E s hf k => by
  have g : ∀ X, Fits S X → PT X (.Compare a [.Is] [.Constant .none j pos'] pos) (fun σ H Q => tB S a σ H fun x H1 => V.non = .non ∧ ∃ k, V.bl (decide (x = .non)) = .bl k ∧ Q k H1) := fun X hX => pt_cmpR op_isN (pe_tB hX) pe_non (nomark _)
  refine ⟨_, g, ?_⟩
  rcases bind_some hf with ⟨d, δ1, h1, h2⟩ | ⟨x, h1, rfl⟩
  · cases h2
    refine h σ H δ Fs _ _ E s h1 fun v H1 Fs1 F p o => ?_
    obtain ⟨G, r⟩ := o.rep p.env
    exact ⟨rfl, _, rfl, by rw [isN_V r]; exact k H1 Fs1 p.dropR⟩
  · exact h σ H δ Fs _ _ E s h1 k
theorem dt_notN {a : Expr} {κ : Kd} {M : List Nat} {f : EM D} {j : Nat} {pos pos' : Pos} (h : DE S a κ M f) : DT S (.Compare a [.IsNot] [.Constant .none j pos'] pos) M (EM.bind f fun d δ => some (.ok (!isN d) δ)) := fun σ H δ Fs Q r E s hf k => by
  have g : ∀ X, Fits S X → PT X (.Compare a [.IsNot] [.Constant .none j pos'] pos) (fun σ H Q => tB S a σ H fun x H1 => V.non = .non ∧ ∃ k, V.bl (!decide (x = .non)) = .bl k ∧ Q k H1) := fun X hX => pt_cmpR op_notN (pe_tB hX) pe_non (nomark _)
  refine ⟨_, g, ?_⟩
  rcases bind_some hf with ⟨d, δ1, h1, h2⟩ | ⟨x, h1, rfl⟩
  · cases h2
    refine h σ H δ Fs _ _ E s h1 fun v H1 Fs1 F p o => ?_
    obtain ⟨G, r⟩ := o.rep p.env
    exact ⟨rfl, _, rfl, by rw [isN_V r]; exact k H1 Fs1 p.dropR⟩
  · exact h σ H δ Fs _ _ E s h1 k
/-- an int for sure -/
@[simp] def cIntC (f : EM D) : EM D := EM.bind f fun d δ => match d with
  | .int i => some (.ok (.int i) δ)
  | _ => none
theorem de_intc {e : Expr} {M : List Nat} {f : EM D} (h : DE S e .own M f) : DE S e .own M (cIntC f) := fun σ H δ Fs Q r E s hf k => by
  rcases bind_some hf with ⟨d, δ1, h1, h2⟩ | ⟨x, h1, rfl⟩
  · cases d with
    | int i => cases h2; exact h σ H δ Fs Q _ E s h1 k
    | _ => cases h2
  · exact h σ H δ Fs Q _ E s h1 k
theorem intc_ok {f : EM D} {δ δ' : DEnv} {d : D} (h : cIntC f δ = some (.ok d δ')) : ∃ i, d = .int i := by
  rcases bind_some h with ⟨d, δ1, h1, h2⟩ | ⟨x, h1, h2⟩
  · cases d with
    | int i => cases h2; exact ⟨i, rfl⟩
    | _ => cases h2
  · cases h2
end DL
/-! DL15: running the combinators: one lemma a combinator. -/
namespace DL
open PySem PySem.Spec PyProof.Rows L2
section
variable {α β : Type} {δ δ1 δ2 δ3 : DEnv}
theorem r_bind {f : EM α} {g : α → EM β} {a : α} {r : Option (Out β)} (h : f δ = some (.ok a δ1)) (k : g a δ1 = r) : EM.bind f g δ = r := by
  unfold EM.bind; rw [h]; exact k
theorem r_c {d : D} : cC d δ = some (.ok d δ) := rfl
theorem r_sl {i : Nat} {d : D} (h : δ[i]? = some (some d)) : cSl i δ = some (.ok d δ) := by unfold cSl; rw [h]
theorem r_mv {i : Nat} {d : D} (h : δ[i]? = some (some d)) : cMv i δ = some (.ok d (δ.set i none)) := by unfold cMv; rw [h]
theorem r_imm {f : EM D} {d : D} (h : f δ = some (.ok d δ1)) (i : imm d = true) : cImm f δ = some (.ok d δ1) := r_bind h (by rw [if_pos i])
theorem r_args_nil : cArgs [] δ = some (.ok [] δ) := rfl
theorem r_args {κ : Kd} {f : EM D} {fs : List (Kd × EM D)} {d d' : D} {ds : List D} (h : f δ = some (.ok d δ1)) (t : cArgs fs δ1 = some (.ok ds δ2)) (e : reread κ d δ2 = some d') : cArgs ((κ, f) :: fs) δ = some (.ok (d' :: ds) δ2) :=
  r_bind h (r_bind t (by rw [e]))
theorem r_V {f : EM (List D)} {g : List D → Option D} {ds : List D} {d : D} (h : f δ = some (.ok ds δ1)) (e : g ds = some d) : cV f g δ = some (.ok d δ1) := r_bind h (by rw [e])
theorem r_bl {f : EM D} {b : Bool} (h : f δ = some (.ok (.bool b) δ1)) : cBl f δ = some (.ok b δ1) := r_bind h rfl
theorem r_tr {f : EM D} {d : D} {b : Bool} (h : f δ = some (.ok d δ1)) (e : trD d = some b) : cTr f δ = some (.ok b δ1) := r_bind h (by rw [e])
theorem r_not {f : EM Bool} {b : Bool} (h : f δ = some (.ok b δ1)) : cNot f δ = some (.ok (!b) δ1) := r_bind h rfl
theorem r_and {f g : EM Bool} {b : Bool} {r : Option (Out Bool)} (h : f δ = some (.ok b δ1)) (k : (if b = true then g δ1 else some (.ok false δ1)) = r) : cAnd f g δ = r := r_bind h k
theorem r_or {f g : EM Bool} {b : Bool} {r : Option (Out Bool)} (h : f δ = some (.ok b δ1)) (k : (if b = true then some (.ok true δ1) else g δ1) = r) : cOr f g δ = r := r_bind h k
theorem r_ofB {f : EM Bool} {b : Bool} (h : f δ = some (.ok b δ1)) : cOfB f δ = some (.ok (.bool b) δ1) := r_bind h rfl
theorem r_ifE {t : EM Bool} {f g : EM D} {b : Bool} {r : Option (Out D)} (h : t δ = some (.ok b δ1)) (k : (if b = true then f δ1 else g δ1) = r) : cIfE t f g δ = r := r_bind h k
theorem r_andV {f g : EM D} {b : Bool} {r : Option (Out D)} (h : f δ = some (.ok (.bool b) δ1)) (k : (if b = true then g δ1 else some (.ok (.bool false) δ1)) = r) : cAndV f g δ = r := r_bind h (by rw [← k]; cases b <;> rfl)
theorem r_orV {f g : EM D} {b : Bool} {r : Option (Out D)} (h : f δ = some (.ok (.bool b) δ1)) (k : (if b = true then some (.ok (.bool true) δ1) else g δ1) = r) : cOrV f g δ = r := r_bind h (by rw [← k]; cases b <;> rfl)
theorem r_call {κs : List Kd} {F : EM D} {mp : List Nat} {f : EM (List D)} {ds : List D} {d : D} (h : f δ = some (.ok ds δ1)) (e : F (ds.map some) = some (.ok d δ2)) : cCall κs F mp f δ = some (.ok d (backD mp κs δ2 δ1)) := r_bind h (by rw [e])
theorem r_seq {f g : EM Fl} {r : Option (Out Fl)} (h : f δ = some (.ok .nx δ1)) (k : g δ1 = r) : cSeq f g δ = r := by unfold cSeq; rw [h]; exact k
def contF (fl : Fl) (g : EM Fl) (δ : DEnv) : Option (Out Fl) := match fl with
  | .nx => g δ
  | fl => some (.ok fl δ)
theorem r_seqM {f g : EM Fl} {fl : Fl} {r : Option (Out Fl)} (h : f δ = some (.ok fl δ1)) (k : contF fl g δ1 = r) : cSeq f g δ = r := by
  unfold cSeq
  rw [h]
  cases fl <;> exact k
theorem r_cont {g : EM Fl} {r : Option (Out Fl)} (k : g δ = r) : contF .nx g δ = r := k
theorem r_contR {g : EM Fl} {d : D} : contF (.rt d) g δ = some (.ok (.rt d) δ) := rfl
theorem it_T {α : Type} {b : Bool} {x y r : α} (h : b = true) (k : x = r) : (if b = true then x else y) = r := by rw [if_pos h]; exact k
theorem it_F {α : Type} {b : Bool} {x y r : α} (h : b = false) (k : y = r) : (if b = true then x else y) = r := by rw [h]; exact k
theorem r_seqR {f g : EM Fl} {d : D} (h : f δ = some (.ok (.rt d) δ1)) : cSeq f g δ = some (.ok (.rt d) δ1) := by unfold cSeq; rw [h]
theorem r_nx : cNx δ = some (.ok .nx δ) := rfl
theorem r_if {t : EM Bool} {f g : EM Fl} {b : Bool} {r : Option (Out Fl)} (h : t δ = some (.ok b δ1)) (k : (if b = true then f δ1 else g δ1) = r) : cIfS t f g δ = r := r_bind h (by rw [← k]; split <;> rfl)
theorem r_ifT {t : EM Bool} {f g : EM Fl} {r : Option (Out Fl)} (h : t δ = some (.ok true δ1)) (k : f δ1 = r) : cIfS t f g δ = r := r_if h k
theorem r_ifF {t : EM Bool} {f g : EM Fl} {r : Option (Out Fl)} (h : t δ = some (.ok false δ1)) (k : g δ1 = r) : cIfS t f g δ = r := r_if h k
theorem r_ret {f : EM D} {d : D} (h : f δ = some (.ok d δ1)) : cRet f δ = some (.ok (.rt d) δ1) := r_bind h rfl
theorem r_retN : cRetN δ = some (.ok (.rt .none) δ) := rfl
theorem r_drop {f : EM D} {d : D} (h : f δ = some (.ok d δ1)) : cDrop f δ = some (.ok .nx δ1) := r_bind h rfl
theorem r_asg {i : Nat} {f : EM D} {d : D} (h : f δ = some (.ok d δ1)) (hi : Nat.blt i δ1.length = true) : cAsg i f δ = some (.ok .nx (δ1.set i (some d))) := r_bind h (by rw [if_pos (show i < δ1.length from Nat.le_of_ble_eq_true hi)])
theorem r_asgT {is : List Nat} {f : EM D} {ds : List D} (h : f δ = some (.ok (.tuple ds) δ1)) (e : setsD is ds δ1 = some δ2) : cAsgT is f δ = some (.ok .nx δ2) := r_bind h (by dsimp only; rw [e])
theorem r_augI {i : Nat} {g : Int → Int → Int} {f : EM D} {a b : Int} (h0 : δ[i]? = some (some (.int a))) (h : f δ = some (.ok (.int b) δ1)) (hi : Nat.blt i δ1.length = true) : cAugI i g f δ = some (.ok .nx (δ1.set i (some (.int (g a b))))) := by
  unfold cAugI; rw [h0]; exact r_bind h (by dsimp only; rw [if_pos (show i < δ1.length from Nat.le_of_ble_eq_true hi)])
theorem lstAt_of {j : Nat} {ds : List D} (h : δ[j]? = some (some (.list ds))) : lstAt δ j = some ds := by unfold lstAt; rw [h]
theorem r_app {j : Nat} {f : EM D} {d : D} {ds0 ds : List D} (h0 : δ[j]? = some (some (.list ds0))) (h : f δ = some (.ok d δ1)) (h1 : δ1[j]? = some (some (.list ds))) (hl : ds.length < 1000000) : cApp j f δ = some (.ok .nx (δ1.set j (some (.list (ds ++ [d]))))) := by
  unfold cApp; rw [lstAt_of h0]; exact r_bind h (by rw [lstAt_of h1]; dsimp only; rw [if_pos hl])
theorem r_setI {j : Nat} {fe fi : EM D} {d : D} {ds0 ds : List D} {n : Int} {k : Nat} (h0 : δ[j]? = some (some (.list ds0))) (h : fe δ = some (.ok d δ1)) (g : fi δ1 = some (.ok (.int n) δ2)) (h1 : δ2[j]? = some (some (.list ds))) (e : ixN ds.length n = some k) :
    cSetI j fe fi δ = some (.ok .nx (δ2.set j (some (.list (ds.set k d))))) := by
  unfold cSetI; rw [lstAt_of h0]; exact r_bind h (r_bind g (by rw [lstAt_of h1]; dsimp only; rw [e]))
theorem r_augSI {j : Nat} {gg : Int → Int → Int} {fi fe : EM D} {ds0 ds ds2 : List D} {n old b : Int} {k : Nat} (h0 : δ[j]? = some (some (.list ds0))) (h : fi δ = some (.ok (.int n) δ1)) (h1 : δ1[j]? = some (some (.list ds))) (e : ixN ds.length n = some k) (e2 : ds[k]? = some (.int old))
    (g : fe δ1 = some (.ok (.int b) δ2)) (h2 : δ2[j]? = some (some (.list ds2))) (hl : ds2.length = ds.length) : cAugSI j gg fi fe δ = some (.ok .nx (δ2.set j (some (.list (ds2.set k (.int (gg old b))))))) := by
  unfold cAugSI; rw [lstAt_of h0]
  exact r_bind h (by rw [lstAt_of h1]; dsimp only; rw [e]; dsimp only; rw [e2]; exact r_bind g (by rw [lstAt_of h2]; dsimp only; rw [if_pos hl]))
theorem r_popAt {j : Nat} {f : EM D} {ds0 ds : List D} {i : Int} {k : Nat} {y : D} (h0 : δ[j]? = some (some (.list ds0))) (h : f δ = some (.ok (.int i) δ1)) (h1 : δ1[j]? = some (some (.list ds))) (e : ixN ds.length i = some k) (e2 : ds[k]? = some y) (hi : imm y = true) (hl : ds.length ≤ 1000000) :
    cPopAt j f δ = some (.ok y (δ1.set j (some (.list (ds.eraseIdx k))))) := by
  unfold cPopAt; rw [lstAt_of h0]
  exact r_bind h (by rw [lstAt_of h1]; dsimp only; rw [e]; dsimp only; rw [e2]; dsimp only; rw [if_pos ⟨hi, hl⟩])
theorem r_items {f : EM D} {d : D} {ds : List D} (h : f δ = some (.ok d δ1)) (e : itemsD d = some ds) : cItems f δ = some (.ok ds δ1) := r_bind h (by rw [e])
theorem r_rng {g : List D → Option (List D)} {f : EM (List D)} {ds xs : List D} (h : f δ = some (.ok ds δ1)) (e : g ds = some xs) : cRng g f δ = some (.ok xs δ1) := r_bind h (by rw [e])
theorem r_for {f : EM (List D)} {t : Tg} {b : EM Fl} {items : List D} {r : Option (Out Fl)} (h : f δ = some (.ok items δ1)) (k : cLoop t b items δ1 = r) : cFor f t b δ = r := r_bind h k
theorem r_comp {vs : List Nat} {t : Tg} {f : EM (List D)} {cond : EM Bool} {elt : EM D} {items ys : List D} (h : f δ = some (.ok items δ1)) (hi : vs.all (immAt δ1) = true) (hl : items.length ≤ 1000000) (k : compL vs t cond elt items δ1 = some (.ok ys δ2)) : cComp vs t f cond elt δ = some (.ok (.list ys) (backV δ1 vs δ2)) :=
  r_bind h (by rw [if_pos ⟨hi, hl⟩, k])
theorem r_sl3 {κ : Kd} {fa f1 f2 : EM D} {d d' z : D} {i : Int} {j : D} (h : fa δ = some (.ok d δ1)) (h1 : f1 δ1 = some (.ok (.int i) δ2)) (h2 : f2 δ2 = some (.ok j δ3)) (e : reread κ d δ3 = some d') (e2 : gSl11 [d', .int i, j] = some z) : cSl3 κ fa f1 f2 δ = some (.ok z δ3) :=
  r_bind h (r_bind h1 (r_bind h2 (by rw [e]; dsimp only; rw [e2])))
theorem r_intC {f : EM D} {i : Int} (h : f δ = some (.ok (.int i) δ1)) : cIntC f δ = some (.ok (.int i) δ1) := r_bind h rfl
theorem r_fn {n : Nat} {A : List Nat} {g : EM Fl} {d : D} {δ' δ'' : DEnv} (hA : immA A δ = true) (h : g (δ ++ List.replicate (n - δ.length) none) = some (.ok (.rt d) δ')) (e : finArgs A 0 δ δ' = δ'') : fnD n A g δ = some (.ok d δ'') := by unfold fnD; rw [if_pos hA, h, ← e]
theorem r_fnN {n : Nat} {A : List Nat} {g : EM Fl} {δ' δ'' : DEnv} (hA : immA A δ = true) (h : g (δ ++ List.replicate (n - δ.length) none) = some (.ok .nx δ')) (e : finArgs A 0 δ δ' = δ'') : fnD n A g δ = some (.ok .none δ'') := by unfold fnD; rw [if_pos hA, h, ← e]
end
/-! values -/
theorem v_sub {i j : Int} : gSub [.int i, .int j] = some (.int (i - j)) := rfl
theorem v_mul {i j : Int} (h : CMul i j) : gMul [.int i, .int j] = some (.int (i * j)) := if_pos h
theorem v_fdiv {i j : Int} (h : CDiv i j) : gFdiv [.int i, .int j] = some (.int (i / j)) := if_pos h
theorem v_mod {i j : Int} (h : 0 < j) : gMod [.int i, .int j] = some (.int (i % j)) := if_pos h
theorem v_pow {i j : Int} (h : CPow i j) : gPow [.int i, .int j] = some (.int (i ^ j.toNat)) := if_pos h
theorem v_shl {i j : Int} (h : CPow i j) : gShl [.int i, .int j] = some (.int (i * 2 ^ j.toNat)) := if_pos h
theorem v_adds {x y : Str} (h : x.length + y.length ≤ 1000000) : gAdd [.str x, .str y] = some (.str (x ++ y)) := if_pos h
theorem v_addl {xs ys : List D} (h1 : imms xs = true) (h2 : imms ys = true) (h : xs.length + ys.length ≤ 1000000) : gAdd [.list xs, .list ys] = some (.list (xs ++ ys)) := if_pos ⟨h1, h2, h⟩
theorem v_addt {xs ys : List D} (h1 : imms xs = true) (h2 : imms ys = true) (h : xs.length + ys.length ≤ 1000000) : gAdd [.tuple xs, .tuple ys] = some (.tuple (xs ++ ys)) := if_pos ⟨h1, h2, h⟩
theorem v_tup {ds : List D} (h : ds.length ≤ 1000000) : gTup ds = some (.tuple ds) := if_pos h
theorem v_lst {ds : List D} (h : ds.length ≤ 1000000) : gLst ds = some (.list ds) := if_pos h
theorem v_len_str {z : Str} (h : z.length ≤ 1000000) : gLen [.str z] = some (.int z.length) := by simp [h]
theorem v_len_list {ds : List D} : gLen [.list ds] = some (.int ds.length) := rfl
theorem v_len_tuple {ds : List D} : gLen [.tuple ds] = some (.int ds.length) := rfl
theorem v_ix {d e x : D} (h : ixD d e = some x) (i : imm x = true) : gIx [d, e] = some x := by unfold gIx; dsimp only; rw [h]; dsimp only; rw [if_pos i]
theorem ix_list {ds : List D} {i : Int} {x : D} (h : atI ds i = some x) : ixD (.list ds) (.int i) = some x := h
theorem ix_tuple {ds : List D} {i : Int} {x : D} (h : atI ds i = some x) : ixD (.tuple ds) (.int i) = some x := h
theorem ix_strD {z : Str} {i : Int} {c : Nat} (hl : z.length ≤ 1000000) (h : atI z.cps.toList i = some c) : ixD (.str z) (.int i) = some (.str ⟨#[c]⟩) := by unfold ixD; dsimp only; rw [if_pos hl, h]; rfl
theorem atI_of {α : Type} {xs : List α} {i : Int} {j : Nat} {x : α} (e : i = j) (h : xs[j]? = some x) : atI xs i = some x := by subst e; exact atI_nat h
theorem ixN_of {n : Nat} {i : Int} {j : Nat} (e : i = j) (h : j < n) : ixN n i = some j := by subst e; unfold ixN; rw [if_pos (by omega), if_pos (by omega)]; simp
theorem v_list_l {ds : List D} (h : imms ds = true) : gList [.list ds] = some (.list ds) := if_pos h
theorem v_list_t {ds : List D} (h : imms ds = true) : gList [.tuple ds] = some (.list ds) := if_pos h
theorem v_tuple_l {ds : List D} (h : imms ds = true) : gTuple [.list ds] = some (.tuple ds) := if_pos h
theorem v_tuple_t {ds : List D} (h : imms ds = true) : gTuple [.tuple ds] = some (.tuple ds) := if_pos h
theorem v_rng1 {j : Int} (h : -1000000000 ≤ j ∧ j ≤ 1000000000) : gRng1 [.int j] = some (rangeD 0 j.toNat) := if_pos h
theorem v_rng2 {i j : Int} (h1 : -1000000000 ≤ i ∧ i ≤ 1000000000) (h : -1000000000 ≤ j ∧ j ≤ 1000000000) : gRng2 [.int i, .int j] = some (rangeD i (j - i).toNat) := if_pos ⟨h1, h⟩
end DL
/-! DL16: what a combinator gives, in the form of a weakest condition. -/
namespace DL
open PySem PySem.Spec PyProof.Rows L2
def wp {α : Type} (r : Option (Out α)) (Q : α → DEnv → Prop) : Prop := ∃ a δ, r = some (.ok a δ) ∧ Q a δ
section
variable {α β : Type} {δ : DEnv}
theorem w_ok {a : α} {Q : α → DEnv → Prop} (h : Q a δ) : wp (some (.ok a δ)) Q := ⟨a, δ, rfl, h⟩
theorem w_mono {r : Option (Out α)} {P Q : α → DEnv → Prop} (h : wp r P) (k : ∀ a δ, P a δ → Q a δ) : wp r Q := by
  obtain ⟨a, δ, e, h⟩ := h
  exact ⟨a, δ, e, k a δ h⟩
theorem w_eq {r : Option (Out α)} {a : α} {Q : α → DEnv → Prop} (e : r = some (.ok a δ)) (h : Q a δ) : wp r Q := ⟨a, δ, e, h⟩
theorem w_bind {f : EM α} {g : α → EM β} {Q : β → DEnv → Prop} (h : wp (f δ) fun a δ1 => wp (g a δ1) Q) : wp (EM.bind f g δ) Q := by
  obtain ⟨a, δ1, e, b, δ2, e2, q⟩ := h
  exact ⟨b, δ2, r_bind e e2, q⟩
theorem w_c {d : D} {Q : D → DEnv → Prop} (h : Q d δ) : wp (cC d δ) Q := w_eq r_c h
theorem w_sl {i : Nat} {d : D} {Q : D → DEnv → Prop} (e : δ[i]? = some (some d)) (h : Q d δ) : wp (cSl i δ) Q := w_eq (r_sl e) h
theorem w_mv {i : Nat} {d : D} {Q : D → DEnv → Prop} (e : δ[i]? = some (some d)) (h : Q d (δ.set i none)) : wp (cMv i δ) Q := w_eq (r_mv e) h
theorem w_imm {f : EM D} {Q : D → DEnv → Prop} (h : wp (f δ) fun d δ1 => imm d = true ∧ Q d δ1) : wp (cImm f δ) Q := by
  obtain ⟨d, δ1, e, i, q⟩ := h
  exact w_eq (r_imm e i) q
theorem w_args_nil {Q : List D → DEnv → Prop} (h : Q [] δ) : wp (cArgs [] δ) Q := w_eq r_args_nil h
theorem w_args {κ : Kd} {f : EM D} {fs : List (Kd × EM D)} {Q : List D → DEnv → Prop} (h : wp (f δ) fun d δ1 => wp (cArgs fs δ1) fun ds δ2 => ∃ d', reread κ d δ2 = some d' ∧ Q (d' :: ds) δ2) : wp (cArgs ((κ, f) :: fs) δ) Q := by
  obtain ⟨d, δ1, e, ds, δ2, e2, d', e3, q⟩ := h
  exact w_eq (r_args e e2 e3) q
theorem w_V {f : EM (List D)} {g : List D → Option D} {Q : D → DEnv → Prop} (h : wp (f δ) fun ds δ1 => ∃ d, g ds = some d ∧ Q d δ1) : wp (cV f g δ) Q := by
  obtain ⟨ds, δ1, e, d, e2, q⟩ := h
  exact w_eq (r_V e e2) q
theorem w_bl {f : EM D} {Q : Bool → DEnv → Prop} (h : wp (f δ) fun d δ1 => ∃ b, d = .bool b ∧ Q b δ1) : wp (cBl f δ) Q := by
  obtain ⟨d, δ1, e, b, rfl, q⟩ := h
  exact w_eq (r_bl e) q
theorem w_tr {f : EM D} {Q : Bool → DEnv → Prop} (h : wp (f δ) fun d δ1 => ∃ b, trD d = some b ∧ Q b δ1) : wp (cTr f δ) Q := by
  obtain ⟨d, δ1, e, b, e2, q⟩ := h
  exact w_eq (r_tr e e2) q
theorem w_not {f : EM Bool} {Q : Bool → DEnv → Prop} (h : wp (f δ) fun b δ1 => Q (!b) δ1) : wp (cNot f δ) Q := by
  obtain ⟨b, δ1, e, q⟩ := h
  exact w_eq (r_not e) q
theorem w_and {f g : EM Bool} {Q : Bool → DEnv → Prop} (h : wp (f δ) fun b δ1 => wp (if b = true then g δ1 else some (.ok false δ1)) Q) : wp (cAnd f g δ) Q := w_bind h
theorem w_or {f g : EM Bool} {Q : Bool → DEnv → Prop} (h : wp (f δ) fun b δ1 => wp (if b = true then some (.ok true δ1) else g δ1) Q) : wp (cOr f g δ) Q := w_bind h
theorem w_ofB {f : EM Bool} {Q : D → DEnv → Prop} (h : wp (f δ) fun b δ1 => Q (.bool b) δ1) : wp (cOfB f δ) Q := by
  obtain ⟨b, δ1, e, q⟩ := h
  exact w_eq (r_ofB e) q
theorem w_ifE {t : EM Bool} {f g : EM D} {Q : D → DEnv → Prop} (h : wp (t δ) fun b δ1 => wp (if b = true then f δ1 else g δ1) Q) : wp (cIfE t f g δ) Q := by
  obtain ⟨b, δ1, e, d, δ2, e2, q⟩ := h
  exact w_eq (r_ifE e e2) q
theorem w_ite {b : Bool} {x y : Option (Out α)} {Q : α → DEnv → Prop} (h1 : b = true → wp x Q) (h2 : b = false → wp y Q) : wp (if b = true then x else y) Q := by
  cases b
  · exact h2 rfl
  · exact h1 rfl
theorem w_call {κs : List Kd} {F : EM D} {mp : List Nat} {f : EM (List D)} {Q : D → DEnv → Prop} (h : wp (f δ) fun ds δ1 => wp (F (ds.map some)) fun d δ2 => Q d (backD mp κs δ2 δ1)) : wp (cCall κs F mp f δ) Q := by
  obtain ⟨ds, δ1, e, d, δ2, e2, q⟩ := h
  exact w_eq (r_call e e2) q
theorem w_seq {f g : EM Fl} {Q : Fl → DEnv → Prop} (h : wp (f δ) fun fl δ1 => wp (contF fl g δ1) Q) : wp (cSeq f g δ) Q := by
  obtain ⟨fl, δ1, e, d, δ2, e2, q⟩ := h
  exact w_eq (r_seqM e e2) q
theorem w_cont {g : EM Fl} {Q : Fl → DEnv → Prop} (k : wp (g δ) Q) : wp (contF .nx g δ) Q := k
theorem w_contR {g : EM Fl} {d : D} {Q : Fl → DEnv → Prop} (k : Q (.rt d) δ) : wp (contF (.rt d) g δ) Q := w_ok k
theorem w_contC {g : EM Fl} {Q : Fl → DEnv → Prop} (k : Q .ct δ) : wp (contF .ct g δ) Q := w_ok k
theorem w_contB {g : EM Fl} {Q : Fl → DEnv → Prop} (k : Q .bk δ) : wp (contF .bk g δ) Q := w_ok k
theorem w_nx {Q : Fl → DEnv → Prop} (k : Q .nx δ) : wp (cNx δ) Q := w_ok k
theorem w_if {t : EM Bool} {f g : EM Fl} {Q : Fl → DEnv → Prop} (h : wp (t δ) fun b δ1 => wp (if b = true then f δ1 else g δ1) Q) : wp (cIfS t f g δ) Q := by
  obtain ⟨b, δ1, e, d, δ2, e2, q⟩ := h
  exact w_eq (r_if e e2) q
theorem w_ret {f : EM D} {Q : Fl → DEnv → Prop} (h : wp (f δ) fun d δ1 => Q (.rt d) δ1) : wp (cRet f δ) Q := by
  obtain ⟨b, δ1, e, q⟩ := h
  exact w_eq (r_ret e) q
theorem w_retN {Q : Fl → DEnv → Prop} (k : Q (.rt .none) δ) : wp (cRetN δ) Q := w_ok k
theorem w_drop {f : EM D} {Q : Fl → DEnv → Prop} (h : wp (f δ) fun d δ1 => Q .nx δ1) : wp (cDrop f δ) Q := by
  obtain ⟨b, δ1, e, q⟩ := h
  exact w_eq (r_drop e) q
theorem w_asg {i : Nat} {f : EM D} {Q : Fl → DEnv → Prop} (h : wp (f δ) fun d δ1 => Nat.blt i δ1.length = true ∧ Q .nx (δ1.set i (some d))) : wp (cAsg i f δ) Q := by
  obtain ⟨b, δ1, e, e2, q⟩ := h
  exact w_eq (r_asg e e2) q
theorem w_asgT {is : List Nat} {f : EM D} {Q : Fl → DEnv → Prop} (h : wp (f δ) fun d δ1 => ∃ ds δ2, d = .tuple ds ∧ setsD is ds δ1 = some δ2 ∧ Q .nx δ2) : wp (cAsgT is f δ) Q := by
  obtain ⟨b, δ1, e, ds, δ2, rfl, e2, q⟩ := h
  exact w_eq (r_asgT e e2) q
theorem w_augI {i : Nat} {g : Int → Int → Int} {f : EM D} {a : Int} {Q : Fl → DEnv → Prop} (h0 : δ[i]? = some (some (.int a))) (h : wp (f δ) fun d δ1 => ∃ b, d = .int b ∧ Nat.blt i δ1.length = true ∧ Q .nx (δ1.set i (some (.int (g a b))))) : wp (cAugI i g f δ) Q := by
  obtain ⟨d, δ1, e, b, rfl, e2, q⟩ := h
  exact w_eq (r_augI h0 e e2) q
theorem w_app {j : Nat} {f : EM D} {ds0 : List D} {Q : Fl → DEnv → Prop} (h0 : δ[j]? = some (some (.list ds0))) (h : wp (f δ) fun d δ1 => ∃ ds, δ1[j]? = some (some (.list ds)) ∧ ds.length < 1000000 ∧ Q .nx (δ1.set j (some (.list (ds ++ [d]))))) : wp (cApp j f δ) Q := by
  obtain ⟨d, δ1, e, ds, e2, hl, q⟩ := h
  exact w_eq (r_app h0 e e2 hl) q
theorem w_setI {j : Nat} {fe fi : EM D} {ds0 : List D} {Q : Fl → DEnv → Prop} (h0 : δ[j]? = some (some (.list ds0))) (h : wp (fe δ) fun d δ1 => wp (fi δ1) fun x δ2 => ∃ n ds k, x = .int n ∧ δ2[j]? = some (some (.list ds)) ∧ ixN ds.length n = some k ∧ Q .nx (δ2.set j (some (.list (ds.set k d))))) : wp (cSetI j fe fi δ) Q := by
  obtain ⟨d, δ1, e, x, δ2, e2, n, ds, k, rfl, e3, e4, q⟩ := h
  exact w_eq (r_setI h0 e e2 e3 e4) q
theorem w_items {f : EM D} {Q : List D → DEnv → Prop} (h : wp (f δ) fun d δ1 => ∃ ds, itemsD d = some ds ∧ Q ds δ1) : wp (cItems f δ) Q := by
  obtain ⟨d, δ1, e, ds, e2, q⟩ := h
  exact w_eq (r_items e e2) q
theorem w_rng {g : List D → Option (List D)} {f : EM (List D)} {Q : List D → DEnv → Prop} (h : wp (f δ) fun ds δ1 => ∃ xs, g ds = some xs ∧ Q xs δ1) : wp (cRng g f δ) Q := by
  obtain ⟨d, δ1, e, ds, e2, q⟩ := h
  exact w_eq (r_rng e e2) q
theorem w_for {f : EM (List D)} {t : Tg} {b : EM Fl} {Q : Fl → DEnv → Prop} (h : wp (f δ) fun items δ1 => wp (cLoop t b items δ1) Q) : wp (cFor f t b δ) Q := w_bind h
theorem w_intC {f : EM D} {Q : D → DEnv → Prop} (h : wp (f δ) fun d δ1 => ∃ i, d = .int i ∧ Q (.int i) δ1) : wp (cIntC f δ) Q := by
  obtain ⟨d, δ1, e, i, rfl, q⟩ := h
  exact w_eq (r_intC e) q
/-- a loop by an invariant: a round goes on, leaves the loop or returns -/
theorem w_loop {t : Tg} {body : EM Fl} {items : List D} {Q : Fl → DEnv → Prop} (Inv : Nat → DEnv → Prop) (h0 : Inv 0 δ)
    (hs : ∀ i d δ, items[i]? = some d → Inv i δ → ∃ δ1, bindT t d δ = some δ1 ∧ wp (body δ1) fun fl δ2 => match fl with
      | .nx => Inv (i + 1) δ2
      | .ct => Inv (i + 1) δ2
      | .bk => Q .nx δ2
      | .rt d => Q (.rt d) δ2) (he : ∀ δ', Inv items.length δ' → Q .nx δ') : wp (cLoop t body items δ) Q := by
  have key : ∀ (rest : List D) (i : Nat) (δ : DEnv), items.drop i = rest → i ≤ items.length → Inv i δ → wp (cLoop t body rest δ) Q := fun rest => by
    induction rest with
    | nil =>
      intro i δ hd hi hI
      have e : i = items.length := by
        have := congrArg List.length hd
        rw [List.length_drop] at this
        simp at this
        omega
      subst e
      exact w_eq rfl (he _ hI)
    | cons d rest ih =>
      intro i δ hd hi hI
      have hlt : i < items.length := by
        have := congrArg List.length hd
        rw [List.length_drop, List.length_cons] at this
        omega
      rw [List.drop_eq_getElem_cons hlt] at hd
      injection hd with h1 h2
      obtain ⟨δ1, e1, fl, δ2, e2, q⟩ := hs i d δ (by rw [List.getElem?_eq_getElem hlt, h1]) hI
      rw [cLoop]
      dsimp only
      rw [e1]
      dsimp only
      rw [e2]
      cases fl with
      | nx => exact ih (i + 1) δ2 h2 hlt q
      | ct => exact ih (i + 1) δ2 h2 hlt q
      | bk => exact w_eq rfl q
      | rt d => exact w_eq rfl q
  exact key items 0 δ rfl (Nat.zero_le _) h0
/-- a comprehension by an invariant over the list built so far -/
theorem w_comp {vs : List Nat} {t : Tg} {f : EM (List D)} {cond : EM Bool} {elt : EM D} {Q : D → DEnv → Prop}
    (h : wp (f δ) fun items δ0 => vs.all (immAt δ0) = true ∧ items.length ≤ 1000000 ∧ ∃ Inv : Nat → DEnv → List D → Prop, Inv 0 δ0 [] ∧
      (∀ i d δ acc, items[i]? = some d → Inv i δ acc → ∃ δ1, bindT t d (wipeD vs δ) = some δ1 ∧ wp (cond δ1) fun b δ2 => if b = true then wp (elt δ2) fun y δ3 => Inv (i + 1) δ3 (acc ++ [y]) else Inv (i + 1) δ2 acc) ∧
      (∀ δ' ys, Inv items.length δ' ys → Q (.list ys) (backV δ0 vs δ'))) : wp (cComp vs t f cond elt δ) Q := by
  obtain ⟨items, δ0, e0, hv, hl, Inv, hI0, hs, he⟩ := h
  have key : ∀ (rest : List D) (i : Nat) (δ : DEnv) (acc : List D), items.drop i = rest → i ≤ items.length → Inv i δ acc → ∃ δ' ys, Inv items.length δ' (acc ++ ys) ∧ compL vs t cond elt rest δ = some (.ok ys δ') := fun rest => by
    induction rest with
    | nil =>
      intro i δ acc hd hi hI
      have e : i = items.length := by
        have := congrArg List.length hd
        rw [List.length_drop] at this
        simp at this
        omega
      subst e
      exact ⟨δ, [], by rw [List.append_nil]; exact hI, rfl⟩
    | cons d rest ih =>
      intro i δ acc hd hi hI
      have hlt : i < items.length := by
        have := congrArg List.length hd
        rw [List.length_drop, List.length_cons] at this
        omega
      rw [List.drop_eq_getElem_cons hlt] at hd
      injection hd with h1 h2
      obtain ⟨δ1, e1, b, δ2, e2, e3⟩ := hs i d δ acc (by rw [List.getElem?_eq_getElem hlt, h1]) hI
      cases b with
      | true =>
        rw [if_pos rfl] at e3
        obtain ⟨y, δ3, e4, e5⟩ := e3
        obtain ⟨δ', ys, h3, h4⟩ := ih (i + 1) δ3 _ h2 hlt e5
        refine ⟨δ', y :: ys, by rw [List.append_assoc] at h3; exact h3, ?_⟩
        rw [compL]
        dsimp only
        rw [e1]
        dsimp only
        exact r_bind e2 (by rw [if_pos rfl]; exact r_bind e4 (r_bind h4 rfl))
      | false =>
        rw [if_neg Bool.false_ne_true] at e3
        obtain ⟨δ', ys, h3, h4⟩ := ih (i + 1) δ2 _ h2 hlt e3
        refine ⟨δ', ys, h3, ?_⟩
        rw [compL]
        dsimp only
        rw [e1]
        dsimp only
        exact r_bind e2 (by rw [if_neg Bool.false_ne_true]; exact h4)
  obtain ⟨δ', ys, h1, h2⟩ := key items 0 δ0 [] rfl (Nat.zero_le _) hI0
  rw [List.nil_append] at h1
  exact w_eq (r_comp e0 hv hl h2) (he _ _ h1)
theorem w_fn {n : Nat} {A : List Nat} {g : EM Fl} {Q : D → DEnv → Prop} (hA : immA A δ = true) (h : wp (g (δ ++ List.replicate (n - δ.length) none)) fun fl δ' => match fl with
    | .rt d => Q d (finArgs A 0 δ δ')
    | .nx => Q .none (finArgs A 0 δ δ')
    | _ => False) : wp (fnD n A g δ) Q := by
  obtain ⟨fl, δ', e, q⟩ := h
  cases fl with
  | nx => exact w_eq (r_fnN hA e rfl) q
  | rt d => exact w_eq (r_fn hA e rfl) q
  | bk => exact q.elim
  | ct => exact q.elim
end
theorem rangeD_len (lo : Int) (n : Nat) : (rangeD lo n).length = n := by simp [rangeD]
theorem rangeD_get {lo : Int} {n i : Nat} {d : D} (h : (rangeD lo n)[i]? = some d) : i < n ∧ d = .int (lo + i) := by
  have hi : i < n := by
    have := (List.getElem?_eq_some_iff.mp h).1
    rwa [rangeD_len] at this
  refine ⟨hi, ?_⟩
  have : (rangeD lo n)[i]? = some (.int (lo + i)) := by simp [rangeD, hi]
  rw [this] at h
  exact (Option.some.inj h).symm
end DL
namespace DL
section
variable {α : Type}
theorem w_iteT {b : Bool} {x y : Option (Out α)} {Q : α → DEnv → Prop} (h : b = true) (k : wp x Q) : wp (if b = true then x else y) Q := by rw [if_pos h]; exact k
theorem w_iteF {b : Bool} {x y : Option (Out α)} {Q : α → DEnv → Prop} (h : b = false) (k : wp y Q) : wp (if b = true then x else y) Q := by rw [h]; exact k
theorem w_iteD {p : Prop} {i : Decidable p} {x y : Option (Out α)} {Q : α → DEnv → Prop} (h1 : p → wp x Q) (h2 : ¬p → wp y Q) : wp (if @decide p i = true then x else y) Q :=
  w_ite (fun h => h1 (of_decide_eq_true h)) (fun h => h2 (of_decide_eq_false h))
theorem w_map0 {F : EM α} {Q : α → DEnv → Prop} (h : wp (F []) Q) : wp (F (List.map some ([] : List D))) Q := h
theorem w_map1 {F : EM α} {a : D} {Q : α → DEnv → Prop} (h : wp (F [some a]) Q) : wp (F (List.map some [a])) Q := h
theorem w_map2 {F : EM α} {a b : D} {Q : α → DEnv → Prop} (h : wp (F [some a, some b]) Q) : wp (F (List.map some [a, b])) Q := h
theorem w_map3 {F : EM α} {a b c : D} {Q : α → DEnv → Prop} (h : wp (F [some a, some b, some c]) Q) : wp (F (List.map some [a, b, c])) Q := h
theorem w_map4 {F : EM α} {a b c d : D} {Q : α → DEnv → Prop} (h : wp (F [some a, some b, some c, some d]) Q) : wp (F (List.map some [a, b, c, d])) Q := h
theorem w_map5 {F : EM α} {a b c d e : D} {Q : α → DEnv → Prop} (h : wp (F [some a, some b, some c, some d, some e]) Q) : wp (F (List.map some [a, b, c, d, e])) Q := h
theorem w_map6 {F : EM α} {a b c d e f : D} {Q : α → DEnv → Prop} (h : wp (F [some a, some b, some c, some d, some e, some f]) Q) : wp (F (List.map some [a, b, c, d, e, f])) Q := h
end
end DL
namespace DL
theorem w_yes {δ : DEnv} {Q : Bool → DEnv → Prop} (h : Q true δ) : wp (cYes δ) Q := w_ok h
theorem p_iteT {P R : Prop} (h : P) : (if true = true then P else R) := by rw [if_pos rfl]; exact h
theorem p_iteF {P R : Prop} (h : R) : (if false = true then P else R) := by rw [if_neg Bool.false_ne_true]; exact h
theorem p_iteB {b : Bool} {P R : Prop} (h1 : b = true → P) (h2 : b = false → R) : (if b = true then P else R) := by
  cases b
  · exact p_iteF (h2 rfl)
  · exact p_iteT (h1 rfl)
end DL
namespace DL
open PySem PySem.Spec PyProof.Rows L2
def g__law_draw : EM Fl := cSeq (cIfS (cBl (cV (cArgs [(.own, cV (cArgs [(.sl 0, cSl 0), (.own, cC (.int 2))]) gIx), (.own, cC (.int 0))]) gGt)) (cSeq (cAsg 2 (cV (cArgs [(.sl 0, cSl 0), (.own, cC (.int 2))]) gIx)) (cSeq (cSetI 0 (cV (cArgs [(.sl 2, cSl 2), (.sl 1, cSl 1)]) gFdiv) (cC (.int 2))) (cSeq (cRet (cV (cArgs [(.own, cV (cArgs [(.sl 2, cSl 2)]) gInt), (.sl 1, cSl 1)]) gMod)) (cNx)))) (cNx)) (cSeq (cAsg 3 (cC (.int 0))) (cSeq (cIfS (cBl (cV (cArgs [(.own, cV (cArgs [(.sl 0, cSl 0), (.own, cC (.int 1))]) gIx), (.own, cV (cArgs [(.bor [0], cV (cArgs [(.sl 0, cSl 0), (.own, cC (.int 0))]) gIxB)]) gLen)]) gLt)) (cSeq (cAsg 4 (cV (cArgs [(.bor [0], cV (cArgs [(.sl 0, cSl 0), (.own, cC (.int 0))]) gIxB), (.own, cV (cArgs [(.sl 0, cSl 0), (.own, cC (.int 1))]) gIx)]) gIx)) (cSeq (cAsg 3 (cV (cArgs [(.own, cV (cArgs [(.own, cC (.int 2)), (.own, cV (cArgs [(.sl 4, cSl 4)]) gAbs)]) gMul), (.own, cV (cArgs [(.own, cV (cArgs [(.sl 4, cSl 4), (.own, cC (.int 0))]) gLt)]) gInt)]) gAdd)) (cNx))) (cNx)) (cSeq (cAugSI 0 (fun i j => i + j) (cC (.int 1)) (cC (.int 1))) (cSeq (cIfS (cBl (cV (cArgs [(.sl 3, cSl 3), (.own, cV (cArgs [(.own, cC (.int 2)), (.own, cV (cArgs [(.own, cC (.int 10)), (.own, cC (.int 18))]) gPow)]) gMul)]) gGe)) (cSeq (cAsg 2 (cV (cArgs [(.own, cV (cArgs [(.own, cV (cArgs [(.sl 3, cSl 3), (.own, cC (.int 2))]) gFdiv)]) gInt), (.own, cV (cArgs [(.own, cC (.int 1)), (.own, cC (.int 6000))]) gShl)]) gMod)) (cSeq (cSetI 0 (cV (cArgs [(.sl 2, cSl 2), (.sl 1, cSl 1)]) gFdiv) (cC (.int 2))) (cSeq (cRet (cV (cArgs [(.own, cV (cArgs [(.sl 2, cSl 2)]) gInt), (.sl 1, cSl 1)]) gMod)) (cNx)))) (cNx)) (cSeq (cSetI 0 (cV (cArgs [(.own, cV (cArgs [(.own, cV (cArgs [(.own, cV (cArgs [(.own, cV (cArgs [(.own, cV (cArgs [(.own, cV (cArgs [(.sl 0, cSl 0), (.own, cC (.int 3))]) gIx), (.own, cC (.int 48271))]) gMul), (.own, cV (cArgs [(.own, cV (cArgs [(.own, cV (cArgs [(.sl 3, cSl 3)]) gInt), (.own, cC (.int 2147483629))]) gMod), (.own, cC (.int 16807))]) gMul)]) gAdd), (.own, cV (cArgs [(.own, cV (cArgs [(.sl 0, cSl 0), (.own, cC (.int 1))]) gIx), (.own, cC (.int 69621))]) gMul)]) gAdd), (.own, cC (.int 11))]) gAdd)]) gInt), (.own, cC (.int 2147483647))]) gMod) (cC (.int 3))) (cSeq (cRet (cV (cArgs [(.own, cV (cArgs [(.own, cV (cArgs [(.own, cV (cArgs [(.sl 0, cSl 0), (.own, cC (.int 3))]) gIx), (.own, cC (.int 16))]) gFdiv)]) gInt), (.sl 1, cSl 1)]) gMod)) (cNx)))))))
@[irreducible] def F__law_draw : EM D := fnD 5 [2, 3, 4] g__law_draw
local macro_rules | `(tactic| walk_at "go1") => `(tactic| with_reducible first
  | apply r_c | apply r_args_nil | apply r_nx | apply r_retN | apply r_sl | apply r_args | apply r_V | apply r_bl
  | apply r_tr | apply r_not | apply r_imm | apply r_and | apply r_or | apply r_ofB | apply r_ifE | apply r_andV
  | apply r_orV | apply r_call | apply r_seqM | apply r_cont | apply r_contR | apply r_if | apply r_ret | apply r_drop
  | apply r_asg | apply r_asgT | apply r_augI | apply r_app | apply r_setI | apply r_augSI | apply r_popAt | apply r_items
  | apply r_rng | apply r_for | apply r_comp | apply r_sl3 | apply r_intC | apply r_mv | apply v_mul | apply v_fdiv
  | apply v_mod | apply v_pow | apply v_shl | apply v_adds | apply v_addl | apply v_addt | apply v_tup | apply v_lst
  | apply v_len_str | apply v_len_list | apply v_len_tuple | apply v_ix | apply ix_list | apply ix_tuple | apply ix_strD)
local macro_rules | `(tactic| walk_at "side") => `(tactic| first | rfl | assumption | omega | decide | (simp only [decide_eq_true_eq, decide_eq_false_iff_not, List.length_map]; omega))
local macro_rules | `(tactic| walk_at "go") => `(tactic| repeat (first | walk_at "go1" | assumption | exact rfl | (refine it_T (by walk_at "side") ?_) | (refine it_F (by walk_at "side") ?_) | walk_at "more" | walk_at "num"))
local macro_rules | `(tactic| walk_at "num") => `(tactic| first | omega | (show CDiv _ _; exact ⟨by omega, by omega⟩) | (show CMul _ _; first | exact .inl ⟨by omega, by omega⟩ | exact .inr ⟨by omega, by omega⟩) | (show CPow _ _; exact ⟨by decide, by decide, by decide⟩))
local macro_rules | `(tactic| walk_at "more") => `(tactic| fail)
structure DSt where
  cells : List Int
  pos : Nat
  found : Int
  seed : Int
def dst (s : DSt) : D := .list [.list (s.cells.map .int), .int s.pos, .int s.found, .int s.seed]
def szOf (s : DSt) : Int := match s.cells[s.pos]? with
  | some c => 2 * (if c < 0 then -c else c) + (if c < 0 then 1 else 0)
  | none => 0
def drawV (s : DSt) (m : Int) : Int × DSt :=
  if 0 < s.found then (s.found % m, { s with found := s.found / m })
  else if 2 * 10 ^ 18 ≤ szOf s then (szOf s / 2 % (1 * 2 ^ Int.toNat 6000) % m, { s with pos := s.pos + 1, found := szOf s / 2 % (1 * 2 ^ Int.toNat 6000) / m })
  else
    let sd := (s.seed * 48271 + szOf s % 2147483629 * 16807 + ((s.pos : Int) + 1) * 69621 + 11) % 2147483647
    (sd / 16 % m, { s with pos := s.pos + 1, seed := sd })
theorem draw_eq (s : DSt) (m : Int) (hm : 0 < m) (hm2 : m < 1073741824) : F__law_draw [some (dst s), some (.int m)] = some (.ok (.int (drawV s m).1) [some (dst (drawV s m).2), some (.int m)]) := by
  unfold F__law_draw
  by_cases h : 0 < s.found
  · unfold drawV
    rw [if_pos h]
    apply r_fn
    rfl
    show g__law_draw [some (dst s), some (.int m), none, none, none] = _
    unfold g__law_draw
    walk_at "go"
  · have tail : ∀ (sz : Int) (o : Option D), szOf s = sz → 0 ≤ sz → (s.pos < s.cells.length → ∃ c, atI (s.cells.map PyData.int) (s.pos : Int) = some (.int c) ∧ sz = 2 * (if c < 0 then -c else c) + (if decide (c < 0) = true then 1 else 0)) → (¬ s.pos < s.cells.length → sz = 0) →
        fnD 5 [2, 3, 4] g__law_draw [some (dst s), some (.int m)] = some (.ok (.int (drawV s m).1) [some (dst (drawV s m).2), some (.int m)]) := fun sz o es h0 hc hn => by
      unfold drawV
      rw [if_neg h, es]
      by_cases h4 : 2 * 10 ^ 18 ≤ sz
      · rw [if_pos h4]
        by_cases h2 : s.pos < s.cells.length
        · obtain ⟨c, hc, e⟩ := hc h2
          apply r_fn
          rfl
          show g__law_draw [some (dst s), some (.int m), none, none, none] = _
          unfold g__law_draw
          walk_at "go"
          rw [← e]
          refine it_T (decide_eq_true h4) ?_
          walk_at "go"
          · exact Int.mul_pos (by decide) (Int.pow_pos (by decide))
          walk_at "go"
        · have e := hn h2
          omega
      · rw [if_neg h4]
        by_cases h2 : s.pos < s.cells.length
        · obtain ⟨c, hc, e⟩ := hc h2
          apply r_fn
          rfl
          show g__law_draw [some (dst s), some (.int m), none, none, none] = _
          unfold g__law_draw
          walk_at "go"
          rw [← e]
          refine it_F (decide_eq_false h4) ?_
          walk_at "go"
        · have e := hn h2
          subst e
          apply r_fn
          rfl
          show g__law_draw [some (dst s), some (.int m), none, none, none] = _
          unfold g__law_draw
          walk_at "go"
    by_cases h2 : s.pos < s.cells.length
    · have e : s.cells[s.pos]? = some s.cells[s.pos] := List.getElem?_eq_getElem h2
      generalize s.cells[s.pos] = c at e
      refine tail (2 * (if c < 0 then -c else c) + (if c < 0 then 1 else 0)) none (by unfold szOf; rw [e]) (by split <;> omega) (fun _ => ⟨c, atI_nat (by rw [List.getElem?_map, e]; rfl), by by_cases hc : c < 0 <;> simp [hc]⟩) fun n => absurd h2 n
    · refine tail 0 none (by unfold szOf; rw [List.getElem?_eq_none (by omega)]) (Int.le_refl 0) (fun n => absurd n h2) fun _ => rfl
theorem drawV_ge (s : DSt) {m : Int} (hm : 0 < m) : 0 ≤ (drawV s m).1 := by
  unfold drawV
  split
  · exact Int.emod_nonneg _ (by omega)
  · split
    · exact Int.emod_nonneg _ (by omega)
    · exact Int.emod_nonneg _ (by omega)
theorem drawV_lt (s : DSt) {m : Int} (hm : 0 < m) : (drawV s m).1 < m := by
  unfold drawV
  split
  · exact Int.emod_lt_of_pos _ hm
  · split
    · exact Int.emod_lt_of_pos _ hm
    · exact Int.emod_lt_of_pos _ hm
theorem draw_w {s : DSt} {m : Int} {Q : D → DEnv → Prop} (hm : 0 < m ∧ m < 1073741824) (h : ∀ v s', 0 ≤ v → v < m → Q (.int v) [some (dst s'), some (.int m)]) : wp (F__law_draw [some (dst s), some (.int m)]) Q :=
  w_eq (draw_eq s m hm.1 hm.2) (h _ _ (drawV_ge s hm.1) (drawV_lt s hm.1))
end DL
/-! C2: the law's first def, its first line, and the law rule. -/
namespace DL
open PySem PySem.Spec PyProof.Rows L2
def spBegin (K : PySem.W.Frag) : Sp := fun vs H Q _ => ∃ (a : Addr) (ns : List Int), vs = [.ref a] ∧ SqL K H a (ns.map V.int) ∧ ns.length ≤ 63 ∧ ∀ v H' F, NewV K H v (dst ⟨ns, 0, 0, 7⟩) H' F → Q v H'
theorem ints_reps {K : PySem.W.Frag} {H : Hp} : ∀ ns : List Int, Reps K H (ns.map V.int) (ns.map PyData.int) []
  | [] => .nil
  | n :: r => by
    have := Reps.cons (Rep.int (K := K) (H := H) n) (ints_reps r)
    exact this
theorem tYes_of {σ : L2.St} {H : Hp} {A B : Hp → Prop} (h : A H) : tYes σ H fun b H3 => if b = true then A H3 else B H3 := by
  unfold tYes
  exact h
theorem start_at0 {N : List Str} {v : V} {vs : List V} : (L2.start N (v :: vs))[0]? = some (some v) := rfl
theorem sqL_new {K : PySem.W.Frag} {H : Hp} {a D : Addr} {vs : List V} {o : HO} (h : SqL K H a vs) (hD : H D = none) : SqL K (upd H D o) a vs := by
  rcases h with (h | ⟨o2, h⟩) | h
  · exact .inl (.inl (by rw [upd_ne (ne_of_none h hD)]; exact h))
  · exact .inl (.inr ⟨o2, by rw [upd_ne (ne_of_none h hD)]; exact h⟩)
  · exact .inr h
theorem begin_ok {P : Program} {w : World} {K : PySem.W.Frag} {mg : Str → Option Value} {base : Heap} {st : Stmt} {f : Addr} {fd : FuncData} {k : Nat} {scope : Scope} {p1 p2 p3 p4 p5 p6 p7 p8 p9 p10 p11 : Pos} {j1 j2 j3 : Nat}
    (Fu : Fun K "_law_begin" "_law_begin" st f fd) (Sc : FnScope ["script", "cell"] ["script"] (defScope st))
    (hb : defBody st = [.Return (some (.List [.ListComp (.Call (.Name "int" p1) [.Name "cell" p2] [] p3) [⟨.Name "cell" p4, .Name "script" p5, [], 0⟩] scope p6, .Constant (.int 0) j1 p7, .Constant (.int 0) j2 p8, .Constant (.int 7) j3 p9] p10)) p11])
    (blk : BlkOk ["script", "cell"] (defScope st) scope [("cell", 1)]) (n0 : ∀ E, NmS ⟨P, w, K, mg, base, ["script", "cell"], defScope st, fun _ => true, k, E⟩ 0 "script")
    (n1 : ∀ E, NmS (subS ⟨P, w, K, mg, base, ["script", "cell"], defScope st, fun _ => true, k, E⟩ scope) 1 "cell") (t1 : ∀ E, NmT (subS ⟨P, w, K, mg, base, ["script", "cell"], defScope st, fun _ => true, k, E⟩ scope) 1 "cell")
    (bi : ∀ E, BtS (subS ⟨P, w, K, mg, base, ["script", "cell"], defScope st, fun _ => true, k, E⟩ scope) "int") : FnOk P w K mg base (L2.CX P w) (k + 1) f fd ["script"] (spBegin K) := by
  refine Fu.okX Sc (fun vs H Q E h => ?_) fun cdv Ar outer s H vs Q E hr h => ?_
  · obtain ⟨a, ns, rfl, _⟩ := h; rfl
  obtain ⟨a, ns, rfl, hS, hl, hQ⟩ := h
  have hfit : Fits ⟨P, w, K, mg, base, ["script", "cell"], defScope st, fun _ => true, k, E⟩ (cxOf (L2.CX P w) P w K mg base ["script", "cell"] "_law_begin" (defScope st) f cdv Ar outer s H E) :=
    ⟨rfl, rfl, rfl, rfl, rfl, rfl, rfl, fun _ _ => rfl, hr, rfl, takes_of rfl rfl rfl rfl, passes_of rfl⟩
  rw [hb]
  refine ⟨_, pss_cons (ps_ret (pe_lst (pa_cons (pe_lc (own := [("cell", 1)]) (g := gName 1) (tt := tYes) rfl Sc.nd (pi_list ((n0 E).pe hfit)) blk (fun s H C cl fp => (t1 E).pg (hfit.sub s H C cl fp)) (fun s H C cl fp => pts_nil) (fun s H C cl fp => pe_callTy call_int1 ((bi E).g (hfit.sub s H C cl fp)) ((bi E).m (hfit.sub s H C cl fp)) (by decide +kernel) (pa_cons ((n1 E).pe (hfit.sub s H C cl fp)) pa_nil)))
    (pa_cons pe_int (pa_cons pe_int (pa_cons pe_int pa_nil)))))) pss_nil, ?_⟩
  refine ⟨.ref a, rfl, a, rfl, ⟨_, hS⟩, fun D hD => ?_⟩
  refine lc_list (xs := ns.map V.int) (fun i H' => H' = upd H D (.lst ((ns.take i).map V.int))) rfl (fun i H' _ e => ?_) (fun i x H' hx e => ?_) fun H' e => ?_
  · subst e; exact sqL_new hS hD
  · subst e
    rw [List.getElem?_map] at hx
    cases hn : ns[i]? with
    | none => rw [hn] at hx; cases hx
    | some n =>
      rw [hn] at hx
      cases hx
      have hi := (List.getElem?_eq_some_iff.mp hn).1
      refine ⟨rfl, tYes_of ?_⟩
      refine ⟨.int n, rfl, .inl ⟨n, rfl, (ns.take i).map V.int, upd_same, by rw [List.length_map, List.length_take, sizeLine_eq]; omega, ?_⟩⟩
      rw [upd_upd, List.take_add_one, hn, List.map_append]
      rfl
  · refine ⟨by rw [sizeLine_eq]; show (4 : Nat) ≤ _; omega, fun p hp => ?_⟩
    subst e
    rw [List.length_map, List.take_length] at hp ⊢
    have hpd : p ≠ D := fun z => by rw [z, upd_same] at hp; cases hp
    have hp0 : H p = none := by rw [upd_ne hpd] at hp; exact hp
    refine hQ _ _ [p, D] ⟨?_, ?_, ?_, ?_⟩
    · exact (Keep.new hD).trans (Keep.new hp) (fun _ _ z => z) fun _ _ z => z
    · refine Rep.lst (F := [D]) upd_same ?_
      exact .cons (F := [D]) (.lst (by rw [upd_ne (Ne.symm hpd)]; exact upd_same) (ints_reps ns)) (.cons (.int _) (.cons (.int _) (.cons (.int _) .nil)))
    · intro b m
      rcases List.mem_cons.mp m with m | m
      · subst m; exact hp0
      · have : b = D := by simpa using m
        subst this; exact hD
    · exact List.nodup_cons.mpr ⟨by simpa using hpd, by simp⟩
def spLaw (K : PySem.W.Frag) : Sp := fun vs H Q _ => ∃ (a : Addr) (ns : List Int), vs = [.ref a] ∧ SqL K H a (ns.map V.int) ∧ ns.length ≤ 63 ∧ ∀ H', Q (.bl true) H'
theorem law_rule {P : Program} {w : World} {K : PySem.W.Frag} {mg : Str → Option Value} {base : Heap} {st : Stmt} {rest : List Stmt} {f fb : Addr} {fd fdb : FuncData} {k kb n : Nat} {p1 p2 p3 p4 p5 : Pos} {N : List Str} {M A : List Nat} {g : EM Fl}
    (Fu : Fun K "law" "law" st f fd) (Sc : FnScope N ["script"] (defScope st)) (FB : FnOk P w K mg base (L2.CX P w) kb fb fdb ["script"] (spBegin K)) (hmb : mg "_law_begin" = some (.ref fb)) (kpb : PySem.W.keepIn K (.ref fb) = true) (bib : Binds K fdb ["script"] []) (hkb : kb ≤ k)
    (hb : defBody st = .Assign [.Name "d" p1] (.Call (.Name "_law_begin" p2) [.Name "script" p3] [] p4) p5 :: rest) (hn : N.length = n + 2)
    (n0 : ∀ E, NmS ⟨P, w, K, mg, base, N, defScope st, fun _ => true, k, E⟩ 0 "script") (t1 : ∀ E, NmT ⟨P, w, K, mg, base, N, defScope st, fun _ => true, k, E⟩ 1 "d") (gl : (defScope st).names.lookup ("_law_begin" : Str) = some NameKind.globalImplicit)
    (hr : ∀ E, DSs ⟨P, w, K, mg, base, N, defScope st, fun _ => true, k, E⟩ rest M A g)
    (hg : ∀ ns : List Int, ns.length ≤ 63 → wp (g (none :: some (dst ⟨ns, 0, 0, 7⟩) :: List.replicate n none)) fun fl _ => fl = .rt (.bool true)) : FnOk P w K mg base (L2.CX P w) (k + 1) f fd ["script"] (spLaw K) := by
  refine Fu.okX Sc (fun vs H Q E h => ?_) fun cdv Ar outer s H vs Q E hroom h => ?_
  · obtain ⟨a, ns, rfl, _⟩ := h; rfl
  obtain ⟨a, ns, rfl, hS, hl, hQ⟩ := h
  have hfit : Fits ⟨P, w, K, mg, base, N, defScope st, fun _ => true, k, E⟩ (cxOf (L2.CX P w) P w K mg base N "law" (defScope st) f cdv Ar outer s H E) :=
    ⟨rfl, rfl, rfl, rfl, rfl, rfl, rfl, fun _ _ => rfl, hroom, rfl, takes_of rfl rfl rfl rfl, passes_of rfl⟩
  rw [hb]
  refine ⟨_, pss_cons (ps_set Sc.nd (t1 E).hN (t1 E).loc (pe_call (CX := L2.CX P w) (k := kb) (f := fb) (fd := fdb) (ps := ["script"]) (ds := []) FB (hfit.room.mono hkb) gl hmb kpb bib .nil (Passes_of hfit) (pa_cons ((n0 E).pe hfit) pa_nil)) rfl (.inl rfl)) (pss_tB hfit), ?_⟩
  refine ⟨.ref a, start_at0, a, ns, rfl, hS, hl, fun v H' F nv => ?_⟩
  obtain ⟨fl, δ', e, rfl⟩ := hg ns hl
  have hlen : (L2.start N [V.ref a]).length = n + 2 := by unfold L2.start; simp [hn]
  have hd1 : ∀ i d, (none :: some (dst ⟨ns, 0, 0, 7⟩) :: List.replicate n (none : Option D))[i]? = some (some d) → i = 1 ∧ d = dst ⟨ns, 0, 0, 7⟩ := fun i d h => by
    match i, h with
    | 0, h => cases h
    | 1, h => exact ⟨rfl, by cases h; rfl⟩
    | i + 2, h =>
      have h : (List.replicate n (none : Option D))[i]? = some (some d) := h
      rw [List.getElem?_replicate] at h
      split at h <;> cases h
  refine hr E ((L2.start N [V.ref a]).set 1 (some v)) H' _ (fun i => if i = 1 then F else []) _ _ ⟨?_, fun i d hd => ?_, fun i hno => ?_⟩ ⟨List.nodup_nil, fun i => ?_, fun i j hij b m => ?_, fun i b m => (nomatch m)⟩ e ?_
  · rw [List.length_set, hlen]; simp
  · obtain ⟨rfl, rfl⟩ := hd1 i d hd
    exact ⟨v, by rw [List.getElem?_set_self (by omega)], nv.rep⟩
  · by_cases h1 : i = 1
    · subst h1; exact absurd rfl (hno _)
    · exact if_neg h1
  · by_cases h1 : i = 1
    · rw [if_pos h1]; exact nv.nd
    · rw [if_neg h1]; exact List.nodup_nil
  · by_cases h1 : i = 1
    · rw [if_neg (by omega)]; exact fun z => (nomatch z)
    · rw [if_neg h1] at m; cases m
  · intro v' σ' H2 Fs' Fr p sa rp
    cases rp
    exact hQ H2
end DL
namespace K01
open PySem PySem.Spec PyProof.Rows L2 DL
def topS (i : Nat) : Stmt := PySem.Challenge.pw_ringsbelow_k01_names_known.main.body.getD i (.Pass ⟨0, 0, 0, 0⟩)
def d_LOWER : D := .str "abcdefghijklmnopqrstuvwxyz"
def d_FIGURES : D := .str "0123456789"
def d_LONGEST : D := .int 8
def d_RESERVED : D := .tuple [.str "any", .str "start", .str "then", .str "addr", .str "data", .str "ctrl", .str "seen", .str "own", .str "over", .str "past"]
def g_is_name : EM Fl := cSeq (cIfS (cOr (cBl (cV (cArgs [(.own, cV (cArgs [(.sl 0, cSl 0)]) gLen), (.own, cC (.int 1))]) gLt)) (cBl (cV (cArgs [(.own, cV (cArgs [(.sl 0, cSl 0)]) gLen), (.own, cC d_LONGEST)]) gGt))) (cSeq (cRet (cC (.bool false))) (cNx)) (cNx)) (cSeq (cIfS (cBl (cV (cArgs [(.own, cV (cArgs [(.sl 0, cSl 0), (.own, cC (.int 0))]) gIx), (.own, cC d_LOWER)]) gNin)) (cSeq (cRet (cC (.bool false))) (cNx)) (cNx)) (cSeq (cFor (cItems (cSl 0)) (.nm 1) (cSeq (cIfS (cAnd (cBl (cV (cArgs [(.sl 1, cSl 1), (.own, cC d_LOWER)]) gNin)) (cBl (cV (cArgs [(.sl 1, cSl 1), (.own, cC d_FIGURES)]) gNin))) (cSeq (cRet (cC (.bool false))) (cNx)) (cNx)) (cNx))) (cSeq (cRet (cV (cArgs [(.sl 0, cSl 0), (.own, cC d_RESERVED)]) gNin)) (cNx))))
@[irreducible] def F_is_name : EM D := fnD 2 [1] g_is_name
def g__law_pick : EM Fl := cSeq (cRet (cV (cArgs [(.sl 1, cSl 1), (.own, cCall [.sl 0, .own] F__law_draw [0] (cArgs [(.sl 0, cSl 0), (.own, cV (cArgs [(.sl 1, cSl 1)]) gLen)]))]) gIx)) (cNx)
@[irreducible] def F__law_pick : EM D := fnD 2 [] g__law_pick
def g__law_small : EM Fl := cSeq (cRet (cC (.str "abcdefghijklmnopqrstuvwxyz"))) (cNx)
@[irreducible] def F__law_small : EM D := fnD 0 [] g__law_small
def g__law_fine_signs : EM Fl := cSeq (cRet (cV (cArgs [(.own, cCall [] F__law_small [] (cArgs [])), (.own, cC (.str "0123456789"))]) gAdd)) (cNx)
@[irreducible] def F__law_fine_signs : EM D := fnD 0 [] g__law_fine_signs
def g__law_odd_signs : EM Fl := cSeq (cRet (cC (.str "ABCDEFGHIJKLMNOPQRSTUVWXYZ !\"#$&'()*+,-./:;<=>?\x40[\\]^_`{|}~\n\t"))) (cNx)
@[irreducible] def F__law_odd_signs : EM D := fnD 0 [] g__law_odd_signs
def g__law_reserved : EM Fl := cSeq (cRet (cV (cArgs [(.own, cC (.str "any")), (.own, cC (.str "then")), (.own, cC (.str "addr")), (.own, cC (.str "data")), (.own, cC (.str "ctrl")), (.own, cC (.str "seen")), (.own, cC (.str "own")), (.own, cC (.str "over")), (.own, cC (.str "past")), (.own, cC (.str "start"))]) gLst)) (cNx)
@[irreducible] def F__law_reserved : EM D := fnD 0 [] g__law_reserved
def g__law_is_named : EM Fl := cSeq (cIfS (cOr (cBl (cV (cArgs [(.own, cV (cArgs [(.sl 0, cSl 0)]) gLen), (.own, cC (.int 1))]) gLt)) (cOr (cBl (cV (cArgs [(.own, cV (cArgs [(.sl 0, cSl 0)]) gLen), (.own, cC (.int 8))]) gGt)) (cBl (cV (cArgs [(.sl 0, cSl 0), (.own, cCall [] F__law_reserved [] (cArgs []))]) gIn)))) (cSeq (cRet (cC (.bool false))) (cNx)) (cNx)) (cSeq (cIfS (cBl (cV (cArgs [(.own, cV (cArgs [(.sl 0, cSl 0), (.own, cC (.int 0))]) gIx), (.own, cCall [] F__law_small [] (cArgs []))]) gNin)) (cSeq (cRet (cC (.bool false))) (cNx)) (cNx)) (cSeq (cRet (cV (cArgs [(.own, cComp [1] (.nm 1) (cItems (cSl 0)) (cYes) (cV (cArgs [(.sl 1, cSl 1), (.own, cCall [] F__law_fine_signs [] (cArgs []))]) gIn))]) gAll)) (cNx)))
@[irreducible] def F__law_is_named : EM D := fnD 2 [] g__law_is_named
def g__law_signs : EM Fl := cSeq (cAsg 3 (cC (.str ""))) (cSeq (cFor (cRng gRng1 (cArgs [(.sl 1, cSl 1)])) (.nm 4) (cSeq (cAsg 3 (cV (cArgs [(.sl 3, cSl 3), (.own, cCall [.sl 0, .sl 2] F__law_pick [0] (cArgs [(.sl 0, cSl 0), (.sl 2, cSl 2)]))]) gAdd)) (cNx))) (cSeq (cRet (cImm (cSl 3))) (cNx)))
@[irreducible] def F__law_signs : EM D := fnD 5 [3, 4] g__law_signs
def g__law_right : EM Fl := cSeq (cRet (cV (cArgs [(.own, cCall [.sl 0, .own] F__law_pick [0] (cArgs [(.sl 0, cSl 0), (.own, cCall [] F__law_small [] (cArgs []))])), (.own, cCall [.sl 0, .own, .own] F__law_signs [0] (cArgs [(.sl 0, cSl 0), (.own, cV (cArgs [(.sl 1, cSl 1), (.own, cC (.int 1))]) gSub), (.own, cCall [] F__law_fine_signs [] (cArgs []))]))]) gAdd)) (cNx)
@[irreducible] def F__law_right : EM D := fnD 2 [] g__law_right
def g__law_put_in : EM Fl := cSeq (cAsg 3 (cCall [.sl 0, .own] F__law_draw [0] (cArgs [(.sl 0, cSl 0), (.own, cV (cArgs [(.own, cV (cArgs [(.sl 1, cSl 1)]) gLen), (.own, cC (.int 1))]) gAdd)]))) (cSeq (cRet (cV (cArgs [(.own, cV (cArgs [(.own, cV (cArgs [(.sl 1, cSl 1), (.own, cImm (cSl 3))]) gSl01), (.own, cCall [.sl 0, .sl 2] F__law_pick [0] (cArgs [(.sl 0, cSl 0), (.sl 2, cSl 2)]))]) gAdd), (.own, cV (cArgs [(.sl 1, cSl 1), (.own, cImm (cSl 3))]) gSl10)]) gAdd)) (cNx))
@[irreducible] def F__law_put_in : EM D := fnD 4 [3] g__law_put_in
def g__law_exchanged : EM Fl := cSeq (cAsg 3 (cCall [.sl 0, .own] F__law_draw [0] (cArgs [(.sl 0, cSl 0), (.own, cV (cArgs [(.sl 1, cSl 1)]) gLen)]))) (cSeq (cRet (cV (cArgs [(.own, cV (cArgs [(.own, cV (cArgs [(.sl 1, cSl 1), (.own, cImm (cSl 3))]) gSl01), (.own, cCall [.sl 0, .sl 2] F__law_pick [0] (cArgs [(.sl 0, cSl 0), (.sl 2, cSl 2)]))]) gAdd), (.own, cV (cArgs [(.sl 1, cSl 1), (.own, cV (cArgs [(.sl 3, cSl 3), (.own, cC (.int 1))]) gAdd)]) gSl10)]) gAdd)) (cNx))
@[irreducible] def F__law_exchanged : EM D := fnD 4 [3] g__law_exchanged
def g__law_near_reserved : EM Fl := cSeq (cAsg 1 (cCall [.sl 0, .own] F__law_pick [0] (cArgs [(.sl 0, cSl 0), (.own, cCall [] F__law_reserved [] (cArgs []))]))) (cSeq (cAsg 2 (cCall [.sl 0, .own] F__law_draw [0] (cArgs [(.sl 0, cSl 0), (.own, cC (.int 6))]))) (cSeq (cIfS (cBl (cV (cArgs [(.sl 2, cSl 2), (.own, cC (.int 0))]) gEq)) (cSeq (cRet (cCall [.sl 0, .own, .own] F__law_put_in [0] (cArgs [(.sl 0, cSl 0), (.own, cImm (cSl 1)), (.own, cCall [] F__law_fine_signs [] (cArgs []))]))) (cNx)) (cNx)) (cSeq (cIfS (cBl (cV (cArgs [(.sl 2, cSl 2), (.own, cC (.int 1))]) gEq)) (cSeq (cAsg 3 (cCall [.sl 0, .own] F__law_draw [0] (cArgs [(.sl 0, cSl 0), (.own, cV (cArgs [(.sl 1, cSl 1)]) gLen)]))) (cSeq (cRet (cV (cArgs [(.own, cV (cArgs [(.sl 1, cSl 1), (.own, cImm (cSl 3))]) gSl01), (.own, cV (cArgs [(.sl 1, cSl 1), (.own, cV (cArgs [(.sl 3, cSl 3), (.own, cC (.int 1))]) gAdd)]) gSl10)]) gAdd)) (cNx))) (cNx)) (cSeq (cIfS (cBl (cV (cArgs [(.sl 2, cSl 2), (.own, cC (.int 2))]) gEq)) (cSeq (cRet (cCall [.sl 0, .own, .own] F__law_exchanged [0] (cArgs [(.sl 0, cSl 0), (.own, cImm (cSl 1)), (.own, cCall [] F__law_fine_signs [] (cArgs []))]))) (cNx)) (cNx)) (cSeq (cIfS (cBl (cV (cArgs [(.sl 2, cSl 2), (.own, cC (.int 3))]) gEq)) (cSeq (cRet (cCall [.sl 0, .own, .own] F__law_exchanged [0] (cArgs [(.sl 0, cSl 0), (.own, cImm (cSl 1)), (.own, cV (cArgs [(.sl 1, cSl 1)]) gUpper)]))) (cNx)) (cNx)) (cSeq (cIfS (cBl (cV (cArgs [(.sl 2, cSl 2), (.own, cC (.int 4))]) gEq)) (cSeq (cRet (cV (cArgs [(.sl 1, cSl 1), (.own, cCall [.sl 0, .own] F__law_pick [0] (cArgs [(.sl 0, cSl 0), (.own, cCall [] F__law_reserved [] (cArgs []))]))]) gAdd)) (cNx)) (cNx)) (cSeq (cRet (cV (cArgs [(.sl 1, cSl 1)]) gUpper)) (cNx))))))))
@[irreducible] def F__law_near_reserved : EM D := fnD 4 [1, 2, 3] g__law_near_reserved
def g__law_string : EM Fl := cSeq (cAsg 1 (cCall [.sl 0, .own] F__law_draw [0] (cArgs [(.sl 0, cSl 0), (.own, cC (.int 8))]))) (cSeq (cIfS (cBl (cV (cArgs [(.sl 1, cSl 1), (.own, cC (.int 0))]) gEq)) (cSeq (cRet (cCall [.sl 0, .own] F__law_right [0] (cArgs [(.sl 0, cSl 0), (.own, cV (cArgs [(.own, cC (.int 1)), (.own, cCall [.sl 0, .own] F__law_draw [0] (cArgs [(.sl 0, cSl 0), (.own, cC (.int 8))]))]) gAdd)]))) (cNx)) (cNx)) (cSeq (cIfS (cBl (cV (cArgs [(.sl 1, cSl 1), (.own, cC (.int 1))]) gEq)) (cSeq (cRet (cCall [.sl 0, .own] F__law_right [0] (cArgs [(.sl 0, cSl 0), (.own, cV (cArgs [(.own, cC (.int 7)), (.own, cCall [.sl 0, .own] F__law_draw [0] (cArgs [(.sl 0, cSl 0), (.own, cC (.int 4))]))]) gAdd)]))) (cNx)) (cNx)) (cSeq (cIfS (cBl (cV (cArgs [(.sl 1, cSl 1), (.own, cC (.int 2))]) gEq)) (cSeq (cRet (cCall [.sl 0, .own] F__law_right [0] (cArgs [(.sl 0, cSl 0), (.own, cV (cArgs [(.own, cC (.int 9)), (.own, cCall [.sl 0, .own] F__law_draw [0] (cArgs [(.sl 0, cSl 0), (.own, cC (.int 32))]))]) gAdd)]))) (cNx)) (cNx)) (cSeq (cIfS (cBl (cV (cArgs [(.sl 1, cSl 1), (.own, cC (.int 3))]) gEq)) (cSeq (cRet (cCall [.sl 0, .own, .own] F__law_put_in [0] (cArgs [(.sl 0, cSl 0), (.own, cCall [.sl 0, .own] F__law_right [0] (cArgs [(.sl 0, cSl 0), (.own, cV (cArgs [(.own, cC (.int 1)), (.own, cCall [.sl 0, .own] F__law_draw [0] (cArgs [(.sl 0, cSl 0), (.own, cC (.int 7))]))]) gAdd)])), (.own, cCall [] F__law_odd_signs [] (cArgs []))]))) (cNx)) (cNx)) (cSeq (cIfS (cBl (cV (cArgs [(.sl 1, cSl 1), (.own, cC (.int 4))]) gEq)) (cSeq (cRet (cCall [.sl 0, .own, .own] F__law_exchanged [0] (cArgs [(.sl 0, cSl 0), (.own, cCall [.sl 0, .own] F__law_right [0] (cArgs [(.sl 0, cSl 0), (.own, cV (cArgs [(.own, cC (.int 1)), (.own, cCall [.sl 0, .own] F__law_draw [0] (cArgs [(.sl 0, cSl 0), (.own, cC (.int 8))]))]) gAdd)])), (.own, cV (cArgs [(.own, cCall [] F__law_odd_signs [] (cArgs [])), (.own, cC (.str "0123456789"))]) gAdd)]))) (cNx)) (cNx)) (cSeq (cIfS (cBl (cV (cArgs [(.sl 1, cSl 1), (.own, cC (.int 5))]) gEq)) (cSeq (cRet (cV (cArgs [(.own, cCall [.sl 0, .own] F__law_pick [0] (cArgs [(.sl 0, cSl 0), (.own, cC (.str "0123456789"))])), (.own, cCall [.sl 0, .own, .own] F__law_signs [0] (cArgs [(.sl 0, cSl 0), (.own, cCall [.sl 0, .own] F__law_draw [0] (cArgs [(.sl 0, cSl 0), (.own, cC (.int 8))])), (.own, cCall [] F__law_fine_signs [] (cArgs []))]))]) gAdd)) (cNx)) (cNx)) (cSeq (cIfS (cBl (cV (cArgs [(.sl 1, cSl 1), (.own, cC (.int 6))]) gEq)) (cSeq (cRet (cCall [.sl 0] F__law_near_reserved [0] (cArgs [(.sl 0, cSl 0)]))) (cNx)) (cNx)) (cSeq (cRet (cCall [.sl 0, .own, .own] F__law_signs [0] (cArgs [(.sl 0, cSl 0), (.own, cCall [.sl 0, .own] F__law_draw [0] (cArgs [(.sl 0, cSl 0), (.own, cC (.int 11))])), (.own, cV (cArgs [(.own, cCall [] F__law_fine_signs [] (cArgs [])), (.own, cCall [] F__law_odd_signs [] (cArgs []))]) gAdd)]))) (cNx)))))))))
@[irreducible] def F__law_string : EM D := fnD 2 [1] g__law_string
def g_law : EM Fl := cSeq (cAsg 2 (cV (cArgs [(.own, cV (cArgs [(.own, cComp [8] (.nm 8) (cRng gRng1 (cArgs [(.own, cC (.int 14))])) (cYes) (cCall [.sl 1] F__law_string [0] (cArgs [(.sl 1, cSl 1)]))), (.own, cV (cArgs [(.own, cCall [.sl 1, .own] F__law_right [0] (cArgs [(.sl 1, cSl 1), (.own, cC (.int 8))])), (.own, cCall [.sl 1, .own] F__law_right [0] (cArgs [(.sl 1, cSl 1), (.own, cC (.int 9))])), (.own, cC (.str ""))]) gLst)]) gAdd), (.own, cCall [] F__law_reserved [] (cArgs []))]) gAdd)) (cSeq (cAsg 3 (cCall [.sl 1, .own] F__law_right [0] (cArgs [(.sl 1, cSl 1), (.own, cV (cArgs [(.own, cC (.int 1)), (.own, cCall [.sl 1, .own] F__law_draw [0] (cArgs [(.sl 1, cSl 1), (.own, cC (.int 7))]))]) gAdd)]))) (cSeq (cAsg 4 (cCall [.sl 1, .own, .own] F__law_signs [0] (cArgs [(.sl 1, cSl 1), (.own, cV (cArgs [(.own, cC (.int 1)), (.own, cCall [.sl 1, .own] F__law_draw [0] (cArgs [(.sl 1, cSl 1), (.own, cC (.int 7))]))]) gAdd), (.own, cCall [] F__law_fine_signs [] (cArgs []))]))) (cSeq (cFor (cItems (cV (cArgs [(.own, cCall [] F__law_fine_signs [] (cArgs [])), (.own, cCall [] F__law_odd_signs [] (cArgs []))]) gAdd)) (.nm 5) (cSeq (cAsg 2 (cV (cArgs [(.sl 2, cSl 2), (.own, cV (cArgs [(.own, cImm (cSl 5)), (.own, cV (cArgs [(.sl 3, cSl 3), (.sl 5, cSl 5)]) gAdd), (.own, cV (cArgs [(.sl 5, cSl 5), (.sl 4, cSl 4)]) gAdd), (.own, cV (cArgs [(.own, cV (cArgs [(.own, cV (cArgs [(.sl 3, cSl 3), (.own, cC (.int 3))]) gSl01), (.sl 5, cSl 5)]) gAdd), (.own, cV (cArgs [(.sl 4, cSl 4), (.own, cC (.int 4))]) gSl01)]) gAdd)]) gLst)]) gAdd)) (cNx))) (cSeq (cFor (cItems (cV (cArgs [(.sl 2, cSl 2), (.own, cV (cArgs [(.sl 2, cSl 2)]) gListRev)]) gAdd)) (.nm 6) (cSeq (cAsg 7 (cCall [.own] F_is_name [] (cArgs [(.own, cImm (cSl 6))]))) (cSeq (cIfS (cOr (cNot (cTr (cV (cArgs [(.sl 7, cSl 7)]) (gIsi "bool")))) (cBl (cV (cArgs [(.sl 7, cSl 7), (.own, cCall [.own] F__law_is_named [] (cArgs [(.own, cImm (cSl 6))]))]) gNe))) (cSeq (cRet (cC (.bool false))) (cNx)) (cNx)) (cNx)))) (cSeq (cRet (cC (.bool true))) (cNx))))))
end K01
namespace K01
open PySem PySem.Spec PyProof.Rows L2 DL
abbrev s_is_name : Stmt := topS 5
theorem sc_is_name : FnScope ["text", "sign"] ["text"] (defScope s_is_name) := ⟨rfl, rfl, rfl, by decide +kernel, rfl, by decide +kernel, by decide +kernel⟩
theorem b_is_name {P : Program} {w : World} {K : PySem.W.Frag} {mg : Str → Option Value} {base : Heap} {k : Nat} (m_len : mg "len" = none) (l_LONGEST : GlobS mg K "LONGEST" d_LONGEST) (l_LOWER : GlobS mg K "LOWER" d_LOWER) (l_FIGURES : GlobS mg K "FIGURES" d_FIGURES) (l_RESERVED : GlobS mg K "RESERVED" d_RESERVED) (hk : 0 ≤ k) (E : XK) : DSs ⟨P, w, K, mg, base, ["text", "sign"], defScope s_is_name, fun _ => true, k, E⟩ (defBody s_is_name) [1] [1] g_is_name := by
  have nd : (["text", "sign"] : List Str).Nodup := sc_is_name.nd
  have n0 : NmS ⟨P, w, K, mg, base, ["text", "sign"], defScope s_is_name, fun _ => true, k, E⟩ 0 "text" := ⟨rfl, .inl rfl, by decide, by decide⟩
  have n1 : NmS ⟨P, w, K, mg, base, ["text", "sign"], defScope s_is_name, fun _ => true, k, E⟩ 1 "sign" := ⟨rfl, .inl rfl, by decide, by decide⟩
  have t1 : NmT ⟨P, w, K, mg, base, ["text", "sign"], defScope s_is_name, fun _ => true, k, E⟩ 1 "sign" := ⟨nd, rfl, .inl rfl, .inl rfl⟩
  exact DSs.monoD (dss_cons (ds_if (dt_w (dw_or (dt_cmp co_lt (da_cons (de_len ⟨rfl, m_len⟩ (da_cons (de_sl n0) (da_nil)) ⟨fun _ => rfl, trivial⟩) (da_cons (de_int) (da_nil))) (nomark _)) (dw_or1 (dt_cmp co_gt (da_cons (de_len ⟨rfl, m_len⟩ (da_cons (de_sl n0) (da_nil)) ⟨fun _ => rfl, trivial⟩) (da_cons (de_glob l_LONGEST rfl) (da_nil))) (nomark _))))) (dss_cons (ds_ret (de_bl)) (dss_nil)) (dss_nil)) (dss_cons (ds_if (dt_cmp co_nin (da_cons (de_ix (da_cons (de_sl n0) (da_cons (de_int) (da_nil))) (fun _ _ => rfl)) (da_cons (de_glob l_LOWER rfl) (da_nil))) (by rfl)) (dss_cons (ds_ret (de_bl)) (dss_nil)) (dss_nil)) (dss_cons (ds_for (di_seq (de_sl n0)) (tg_nm t1) (dss_cons (ds_if (dt_w (dw_and (dt_cmp co_nin (da_cons (de_sl n1) (da_cons (de_glob l_LOWER rfl) (da_nil))) (by rfl)) (dw_and1 (dt_cmp co_nin (da_cons (de_sl n1) (da_cons (de_glob l_FIGURES rfl) (da_nil))) (by rfl))))) (dss_cons (ds_ret (de_bl)) (dss_nil)) (dss_nil)) (dss_nil)) (fun _ _ => rfl) (by decide)) (dss_cons (ds_ret (de_cmp co_nin (da_cons (de_sl n0) (da_cons (de_glob l_RESERVED rfl) (da_nil))) (by rfl))) (dss_nil))))) (by decide) (by decide)
theorem i_is_name {P : Program} {w : World} {K : PySem.W.Frag} {mg : Str → Option Value} {base : Heap} {k : Nat} (m_len : mg "len" = none) (l_LONGEST : GlobS mg K "LONGEST" d_LONGEST) (l_LOWER : GlobS mg K "LOWER" d_LOWER) (l_FIGURES : GlobS mg K "FIGURES" d_FIGURES) (l_RESERVED : GlobS mg K "RESERVED" d_RESERVED) (hk : 0 ≤ k) {fa : Addr} {fd : FuncData} (Fu : Fun K "is_name" "is_name" s_is_name fa fd) (hm : mg "is_name" = some (.ref fa)) (bi : Binds K fd ["text"] []) : FnI P w K mg base "is_name" F_is_name [] 1 (k + 1) := by
  unfold F_is_name
  exact
  FnI.mk' Fu (fn_rule Fu sc_is_name (b_is_name m_len l_LONGEST l_LOWER l_FIGURES l_RESERVED hk) rfl rfl (by decide) (by decide)) hm bi
abbrev s__law_begin : Stmt := topS 7
theorem sc__law_begin : FnScope ["script", "cell"] ["script"] (defScope s__law_begin) := ⟨rfl, rfl, rfl, by decide +kernel, rfl, by decide +kernel, by decide +kernel⟩
theorem i__law_begin {P : Program} {w : World} {K : PySem.W.Frag} {mg : Str → Option Value} {base : Heap} {k : Nat} (m_int : mg "int" = none) {fa : Addr} {fd : FuncData} (Fu : Fun K "_law_begin" "_law_begin" s__law_begin fa fd) : FnOk P w K mg base (L2.CX P w) (k + 1) fa fd ["script"] (spBegin K) :=
  begin_ok Fu sc__law_begin rfl (blkOk_by (by show blkC ["script", "cell"] (defScope s__law_begin) _ _ = true; decide +kernel)) (fun _ => ⟨rfl, .inl rfl, by decide, by decide⟩) (fun _ => ⟨rfl, .inl rfl, by decide, by decide⟩) (fun _ => ⟨sc__law_begin.nd, rfl, .inl rfl, .inr rfl⟩) (fun _ => ⟨rfl, m_int⟩)
abbrev s__law_draw : Stmt := topS 8
theorem sc__law_draw : FnScope ["d", "many", "found", "size", "cell"] ["d", "many"] (defScope s__law_draw) := ⟨rfl, rfl, rfl, by decide +kernel, rfl, by decide +kernel, by decide +kernel⟩
theorem b__law_draw {P : Program} {w : World} {K : PySem.W.Frag} {mg : Str → Option Value} {base : Heap} {k : Nat} (m_int : mg "int" = none) (m_len : mg "len" = none) (m_abs : mg "abs" = none) (hk : 0 ≤ k) (E : XK) : DSs ⟨P, w, K, mg, base, ["d", "many", "found", "size", "cell"], defScope s__law_draw, fun _ => true, k, E⟩ (defBody s__law_draw) [0, 2, 3, 4] [2, 3, 4] g__law_draw := by
  have nd : (["d", "many", "found", "size", "cell"] : List Str).Nodup := sc__law_draw.nd
  have n0 : NmS ⟨P, w, K, mg, base, ["d", "many", "found", "size", "cell"], defScope s__law_draw, fun _ => true, k, E⟩ 0 "d" := ⟨rfl, .inl rfl, by decide, by decide⟩
  have n1 : NmS ⟨P, w, K, mg, base, ["d", "many", "found", "size", "cell"], defScope s__law_draw, fun _ => true, k, E⟩ 1 "many" := ⟨rfl, .inl rfl, by decide, by decide⟩
  have n2 : NmS ⟨P, w, K, mg, base, ["d", "many", "found", "size", "cell"], defScope s__law_draw, fun _ => true, k, E⟩ 2 "found" := ⟨rfl, .inl rfl, by decide, by decide⟩
  have t2 : NmT ⟨P, w, K, mg, base, ["d", "many", "found", "size", "cell"], defScope s__law_draw, fun _ => true, k, E⟩ 2 "found" := ⟨nd, rfl, .inl rfl, .inl rfl⟩
  have n3 : NmS ⟨P, w, K, mg, base, ["d", "many", "found", "size", "cell"], defScope s__law_draw, fun _ => true, k, E⟩ 3 "size" := ⟨rfl, .inl rfl, by decide, by decide⟩
  have t3 : NmT ⟨P, w, K, mg, base, ["d", "many", "found", "size", "cell"], defScope s__law_draw, fun _ => true, k, E⟩ 3 "size" := ⟨nd, rfl, .inl rfl, .inl rfl⟩
  have n4 : NmS ⟨P, w, K, mg, base, ["d", "many", "found", "size", "cell"], defScope s__law_draw, fun _ => true, k, E⟩ 4 "cell" := ⟨rfl, .inl rfl, by decide, by decide⟩
  have t4 : NmT ⟨P, w, K, mg, base, ["d", "many", "found", "size", "cell"], defScope s__law_draw, fun _ => true, k, E⟩ 4 "cell" := ⟨nd, rfl, .inl rfl, .inl rfl⟩
  exact DSs.monoD (dss_cons (ds_if (dt_cmp co_gt (da_cons (de_ix (da_cons (de_sl n0) (da_cons (de_int) (da_nil))) (fun _ _ => rfl)) (da_cons (de_int) (da_nil))) (nomark _)) (dss_cons (ds_asg t2 (de_ix (da_cons (de_sl n0) (da_cons (de_int) (da_nil))) (fun _ _ => rfl)) (fun _ => rfl)) (dss_cons (ds_setI n0 (de_fdiv (da_cons (de_sl n2) (da_cons (de_sl n1) (da_nil)))) (de_int) (fun _ => rfl) (fun _ => rfl) (fun _ _ => rfl)) (dss_cons (ds_ret (de_mod (da_cons (de_intC ⟨rfl, m_int⟩ (da_cons (de_sl n2) (da_nil)) ⟨fun _ => rfl, trivial⟩) (da_cons (de_sl n1) (da_nil))))) (dss_nil)))) (dss_nil)) (dss_cons (ds_asg t3 (de_int) (fun _ => rfl)) (dss_cons (ds_if (dt_cmp co_lt (da_cons (de_ix (da_cons (de_sl n0) (da_cons (de_int) (da_nil))) (fun _ _ => rfl)) (da_cons (de_len ⟨rfl, m_len⟩ (da_cons (de_ixB (da_cons (de_sl n0) (da_cons (de_int) (da_nil))) (fun _ _ => rfl) (fun h => nomatch h)) (da_nil)) ⟨fun _ => rfl, trivial⟩) (da_nil))) (nomark _)) (dss_cons (ds_asg t4 (de_ix (da_cons (de_ixB (da_cons (de_sl n0) (da_cons (de_int) (da_nil))) (fun _ _ => rfl) (fun h => nomatch h)) (da_cons (de_ix (da_cons (de_sl n0) (da_cons (de_int) (da_nil))) (fun _ _ => rfl)) (da_nil))) (fun _ _ => rfl)) (fun _ => rfl)) (dss_cons (ds_asg t3 (de_add (da_cons (de_mul (da_cons (de_int) (da_cons (de_abs ⟨rfl, m_abs⟩ (da_cons (de_sl n4) (da_nil)) ⟨fun _ => rfl, trivial⟩) (da_nil)))) (da_cons (de_intC ⟨rfl, m_int⟩ (da_cons (de_cmp co_lt (da_cons (de_sl n4) (da_cons (de_int) (da_nil))) (nomark _)) (da_nil)) ⟨fun _ => rfl, trivial⟩) (da_nil)))) (fun _ => rfl)) (dss_nil))) (dss_nil)) (dss_cons (ds_augSI n0 (de_int) (de_int) (fun _ => ip_add) (fun _ _ _ => rfl)) (dss_cons (ds_if (dt_cmp co_ge (da_cons (de_sl n3) (da_cons (de_mul (da_cons (de_int) (da_cons (de_pow (da_cons (de_int) (da_cons (de_int) (da_nil)))) (da_nil)))) (da_nil))) (nomark _)) (dss_cons (ds_asg t2 (de_mod (da_cons (de_intC ⟨rfl, m_int⟩ (da_cons (de_fdiv (da_cons (de_sl n3) (da_cons (de_int) (da_nil)))) (da_nil)) ⟨fun _ => rfl, trivial⟩) (da_cons (de_shl (da_cons (de_int) (da_cons (de_int) (da_nil)))) (da_nil)))) (fun _ => rfl)) (dss_cons (ds_setI n0 (de_fdiv (da_cons (de_sl n2) (da_cons (de_sl n1) (da_nil)))) (de_int) (fun _ => rfl) (fun _ => rfl) (fun _ _ => rfl)) (dss_cons (ds_ret (de_mod (da_cons (de_intC ⟨rfl, m_int⟩ (da_cons (de_sl n2) (da_nil)) ⟨fun _ => rfl, trivial⟩) (da_cons (de_sl n1) (da_nil))))) (dss_nil)))) (dss_nil)) (dss_cons (ds_setI n0 (de_mod (da_cons (de_intC ⟨rfl, m_int⟩ (da_cons (de_add (da_cons (de_add (da_cons (de_add (da_cons (de_mul (da_cons (de_ix (da_cons (de_sl n0) (da_cons (de_int) (da_nil))) (fun _ _ => rfl)) (da_cons (de_int) (da_nil)))) (da_cons (de_mul (da_cons (de_mod (da_cons (de_intC ⟨rfl, m_int⟩ (da_cons (de_sl n3) (da_nil)) ⟨fun _ => rfl, trivial⟩) (da_cons (de_int) (da_nil)))) (da_cons (de_int) (da_nil)))) (da_nil)))) (da_cons (de_mul (da_cons (de_ix (da_cons (de_sl n0) (da_cons (de_int) (da_nil))) (fun _ _ => rfl)) (da_cons (de_int) (da_nil)))) (da_nil)))) (da_cons (de_int) (da_nil)))) (da_nil)) ⟨fun _ => rfl, trivial⟩) (da_cons (de_int) (da_nil)))) (de_int) (fun _ => rfl) (fun _ => rfl) (fun _ _ => rfl)) (dss_cons (ds_ret (de_mod (da_cons (de_intC ⟨rfl, m_int⟩ (da_cons (de_fdiv (da_cons (de_ix (da_cons (de_sl n0) (da_cons (de_int) (da_nil))) (fun _ _ => rfl)) (da_cons (de_int) (da_nil)))) (da_nil)) ⟨fun _ => rfl, trivial⟩) (da_cons (de_sl n1) (da_nil))))) (dss_nil)))))))) (by decide) (by decide)
theorem i__law_draw {P : Program} {w : World} {K : PySem.W.Frag} {mg : Str → Option Value} {base : Heap} {k : Nat} (m_int : mg "int" = none) (m_len : mg "len" = none) (m_abs : mg "abs" = none) (hk : 0 ≤ k) {fa : Addr} {fd : FuncData} (Fu : Fun K "_law_draw" "_law_draw" s__law_draw fa fd) (hm : mg "_law_draw" = some (.ref fa)) (bi : Binds K fd ["d", "many"] []) : FnI P w K mg base "_law_draw" F__law_draw [0] 2 (k + 1) := by
  unfold F__law_draw
  exact
  FnI.mk' Fu (fn_rule Fu sc__law_draw (b__law_draw m_int m_len m_abs hk) rfl rfl (by decide) (by decide)) hm bi
abbrev s__law_pick : Stmt := topS 9
theorem sc__law_pick : FnScope ["d", "row"] ["d", "row"] (defScope s__law_pick) := ⟨rfl, rfl, rfl, by decide +kernel, rfl, by decide +kernel, by decide +kernel⟩
theorem b__law_pick {P : Program} {w : World} {K : PySem.W.Frag} {mg : Str → Option Value} {base : Heap} {k : Nat} (f__law_draw : FnI P w K mg base "_law_draw" F__law_draw [0] 2 1) (m_len : mg "len" = none) (hk : 1 ≤ k) (E : XK) : DSs ⟨P, w, K, mg, base, ["d", "row"], defScope s__law_pick, fun _ => true, k, E⟩ (defBody s__law_pick) [0] [] g__law_pick := by
  have nd : (["d", "row"] : List Str).Nodup := sc__law_pick.nd
  have n0 : NmS ⟨P, w, K, mg, base, ["d", "row"], defScope s__law_pick, fun _ => true, k, E⟩ 0 "d" := ⟨rfl, .inl rfl, by decide, by decide⟩
  have n1 : NmS ⟨P, w, K, mg, base, ["d", "row"], defScope s__law_pick, fun _ => true, k, E⟩ 1 "row" := ⟨rfl, .inl rfl, by decide, by decide⟩
  exact DSs.monoD (dss_cons (ds_ret (de_ix (da_cons (de_sl n1) (da_cons (de_call f__law_draw (Nat.le_trans (by decide) hk) rfl (da_cons (de_sl n0) (da_cons (de_len ⟨rfl, m_len⟩ (da_cons (de_sl n1) (da_nil)) ⟨fun _ => rfl, trivial⟩) (da_nil))) ⟨fun _ => rfl, fun _ => rfl, trivial⟩ rfl rfl (by decide)) (da_nil))) (fun _ _ => rfl))) (dss_nil)) (by decide) (by decide)
theorem i__law_pick {P : Program} {w : World} {K : PySem.W.Frag} {mg : Str → Option Value} {base : Heap} {k : Nat} (f__law_draw : FnI P w K mg base "_law_draw" F__law_draw [0] 2 1) (m_len : mg "len" = none) (hk : 1 ≤ k) {fa : Addr} {fd : FuncData} (Fu : Fun K "_law_pick" "_law_pick" s__law_pick fa fd) (hm : mg "_law_pick" = some (.ref fa)) (bi : Binds K fd ["d", "row"] []) : FnI P w K mg base "_law_pick" F__law_pick [0] 2 (k + 1) := by
  unfold F__law_pick
  exact
  FnI.mk' Fu (fn_rule Fu sc__law_pick (b__law_pick f__law_draw m_len hk) rfl rfl (by decide) (by decide)) hm bi
abbrev s__law_small : Stmt := topS 10
theorem sc__law_small : FnScope [] [] (defScope s__law_small) := ⟨rfl, rfl, rfl, by decide +kernel, rfl, by decide +kernel, by decide +kernel⟩
theorem b__law_small {P : Program} {w : World} {K : PySem.W.Frag} {mg : Str → Option Value} {base : Heap} {k : Nat}  (hk : 0 ≤ k) (E : XK) : DSs ⟨P, w, K, mg, base, [], defScope s__law_small, fun _ => true, k, E⟩ (defBody s__law_small) [] [] g__law_small := by
  have nd : ([] : List Str).Nodup := sc__law_small.nd
  exact DSs.monoD (dss_cons (ds_ret (de_str)) (dss_nil)) (by decide) (by decide)
theorem i__law_small {P : Program} {w : World} {K : PySem.W.Frag} {mg : Str → Option Value} {base : Heap} {k : Nat}  (hk : 0 ≤ k) {fa : Addr} {fd : FuncData} (Fu : Fun K "_law_small" "_law_small" s__law_small fa fd) (hm : mg "_law_small" = some (.ref fa)) (bi : Binds K fd [] []) : FnI P w K mg base "_law_small" F__law_small [] 0 (k + 1) := by
  unfold F__law_small
  exact
  FnI.mk' Fu (fn_rule Fu sc__law_small (b__law_small  hk) rfl rfl (by decide) (by decide)) hm bi
abbrev s__law_fine_signs : Stmt := topS 11
theorem sc__law_fine_signs : FnScope [] [] (defScope s__law_fine_signs) := ⟨rfl, rfl, rfl, by decide +kernel, rfl, by decide +kernel, by decide +kernel⟩
theorem b__law_fine_signs {P : Program} {w : World} {K : PySem.W.Frag} {mg : Str → Option Value} {base : Heap} {k : Nat} (f__law_small : FnI P w K mg base "_law_small" F__law_small [] 0 1) (hk : 1 ≤ k) (E : XK) : DSs ⟨P, w, K, mg, base, [], defScope s__law_fine_signs, fun _ => true, k, E⟩ (defBody s__law_fine_signs) [] [] g__law_fine_signs := by
  have nd : ([] : List Str).Nodup := sc__law_fine_signs.nd
  exact DSs.monoD (dss_cons (ds_ret (de_add (da_cons (de_call0 f__law_small (Nat.le_trans (by decide) hk) rfl) (da_cons (de_str) (da_nil))))) (dss_nil)) (by decide) (by decide)
theorem i__law_fine_signs {P : Program} {w : World} {K : PySem.W.Frag} {mg : Str → Option Value} {base : Heap} {k : Nat} (f__law_small : FnI P w K mg base "_law_small" F__law_small [] 0 1) (hk : 1 ≤ k) {fa : Addr} {fd : FuncData} (Fu : Fun K "_law_fine_signs" "_law_fine_signs" s__law_fine_signs fa fd) (hm : mg "_law_fine_signs" = some (.ref fa)) (bi : Binds K fd [] []) : FnI P w K mg base "_law_fine_signs" F__law_fine_signs [] 0 (k + 1) := by
  unfold F__law_fine_signs
  exact
  FnI.mk' Fu (fn_rule Fu sc__law_fine_signs (b__law_fine_signs f__law_small hk) rfl rfl (by decide) (by decide)) hm bi
abbrev s__law_odd_signs : Stmt := topS 12
theorem sc__law_odd_signs : FnScope [] [] (defScope s__law_odd_signs) := ⟨rfl, rfl, rfl, by decide +kernel, rfl, by decide +kernel, by decide +kernel⟩
theorem b__law_odd_signs {P : Program} {w : World} {K : PySem.W.Frag} {mg : Str → Option Value} {base : Heap} {k : Nat}  (hk : 0 ≤ k) (E : XK) : DSs ⟨P, w, K, mg, base, [], defScope s__law_odd_signs, fun _ => true, k, E⟩ (defBody s__law_odd_signs) [] [] g__law_odd_signs := by
  have nd : ([] : List Str).Nodup := sc__law_odd_signs.nd
  exact DSs.monoD (dss_cons (ds_ret (de_str)) (dss_nil)) (by decide) (by decide)
theorem i__law_odd_signs {P : Program} {w : World} {K : PySem.W.Frag} {mg : Str → Option Value} {base : Heap} {k : Nat}  (hk : 0 ≤ k) {fa : Addr} {fd : FuncData} (Fu : Fun K "_law_odd_signs" "_law_odd_signs" s__law_odd_signs fa fd) (hm : mg "_law_odd_signs" = some (.ref fa)) (bi : Binds K fd [] []) : FnI P w K mg base "_law_odd_signs" F__law_odd_signs [] 0 (k + 1) := by
  unfold F__law_odd_signs
  exact
  FnI.mk' Fu (fn_rule Fu sc__law_odd_signs (b__law_odd_signs  hk) rfl rfl (by decide) (by decide)) hm bi
abbrev s__law_reserved : Stmt := topS 13
theorem sc__law_reserved : FnScope [] [] (defScope s__law_reserved) := ⟨rfl, rfl, rfl, by decide +kernel, rfl, by decide +kernel, by decide +kernel⟩
theorem b__law_reserved {P : Program} {w : World} {K : PySem.W.Frag} {mg : Str → Option Value} {base : Heap} {k : Nat}  (hk : 0 ≤ k) (E : XK) : DSs ⟨P, w, K, mg, base, [], defScope s__law_reserved, fun _ => true, k, E⟩ (defBody s__law_reserved) [] [] g__law_reserved := by
  have nd : ([] : List Str).Nodup := sc__law_reserved.nd
  exact DSs.monoD (dss_cons (ds_ret (de_lst (da_cons (de_str) (da_cons (de_str) (da_cons (de_str) (da_cons (de_str) (da_cons (de_str) (da_cons (de_str) (da_cons (de_str) (da_cons (de_str) (da_cons (de_str) (da_cons (de_str) (da_nil))))))))))) rfl ⟨fun _ => rfl, fun _ => rfl, fun _ => rfl, fun _ => rfl, fun _ => rfl, fun _ => rfl, fun _ => rfl, fun _ => rfl, fun _ => rfl, fun _ => rfl, trivial⟩)) (dss_nil)) (by decide) (by decide)
theorem i__law_reserved {P : Program} {w : World} {K : PySem.W.Frag} {mg : Str → Option Value} {base : Heap} {k : Nat}  (hk : 0 ≤ k) {fa : Addr} {fd : FuncData} (Fu : Fun K "_law_reserved" "_law_reserved" s__law_reserved fa fd) (hm : mg "_law_reserved" = some (.ref fa)) (bi : Binds K fd [] []) : FnI P w K mg base "_law_reserved" F__law_reserved [] 0 (k + 1) := by
  unfold F__law_reserved
  exact
  FnI.mk' Fu (fn_rule Fu sc__law_reserved (b__law_reserved  hk) rfl rfl (by decide) (by decide)) hm bi
abbrev s__law_is_named : Stmt := topS 14
theorem sc__law_is_named : FnScope ["text", "sign"] ["text"] (defScope s__law_is_named) := ⟨rfl, rfl, rfl, by decide +kernel, rfl, by decide +kernel, by decide +kernel⟩
theorem b__law_is_named {P : Program} {w : World} {K : PySem.W.Frag} {mg : Str → Option Value} {base : Heap} {k : Nat} (f__law_reserved : FnI P w K mg base "_law_reserved" F__law_reserved [] 0 1) (f__law_small : FnI P w K mg base "_law_small" F__law_small [] 0 1) (f__law_fine_signs : FnI P w K mg base "_law_fine_signs" F__law_fine_signs [] 0 2) (m_len : mg "len" = none) (m_all : mg "all" = none) (hk : 2 ≤ k) (E : XK) : DSs ⟨P, w, K, mg, base, ["text", "sign"], defScope s__law_is_named, fun _ => true, k, E⟩ (defBody s__law_is_named) [] [] g__law_is_named := by
  have nd : (["text", "sign"] : List Str).Nodup := sc__law_is_named.nd
  have n0 : NmS ⟨P, w, K, mg, base, ["text", "sign"], defScope s__law_is_named, fun _ => true, k, E⟩ 0 "text" := ⟨rfl, .inl rfl, by decide, by decide⟩
  exact DSs.monoD (dss_cons (ds_if (dt_w (dw_or (dt_cmp co_lt (da_cons (de_len ⟨rfl, m_len⟩ (da_cons (de_sl n0) (da_nil)) ⟨fun _ => rfl, trivial⟩) (da_cons (de_int) (da_nil))) (nomark _)) (dw_or (dt_cmp co_gt (da_cons (de_len ⟨rfl, m_len⟩ (da_cons (de_sl n0) (da_nil)) ⟨fun _ => rfl, trivial⟩) (da_cons (de_int) (da_nil))) (nomark _)) (dw_or1 (dt_cmp co_in (da_cons (de_sl n0) (da_cons (de_call0 f__law_reserved (Nat.le_trans (by decide) hk) rfl) (da_nil))) (by rfl)))))) (dss_cons (ds_ret (de_bl)) (dss_nil)) (dss_nil)) (dss_cons (ds_if (dt_cmp co_nin (da_cons (de_ix (da_cons (de_sl n0) (da_cons (de_int) (da_nil))) (fun _ _ => rfl)) (da_cons (de_call0 f__law_small (Nat.le_trans (by decide) hk) rfl) (da_nil))) (by rfl)) (dss_cons (ds_ret (de_bl)) (dss_nil)) (dss_nil)) (dss_cons (ds_ret (de_all ⟨rfl, m_all⟩ (da_cons (de_comp nd (own := [("sign", 1)]) (di_seq (de_sl n0)) (blkOk_by (by show blkC ["text", "sign"] (defScope s__law_is_named) _ _ = true; decide +kernel)) (fun _ _ => rfl) (tg_nm ⟨nd, rfl, .inl rfl, .inr rfl⟩) (by decide) (dts_nil) (de_cmp co_in (da_cons (de_sl (⟨rfl, .inl rfl, by decide, by decide⟩ : NmS _ 1 "sign")) (da_cons (de_call0 f__law_fine_signs (Nat.le_trans (by decide) hk) rfl) (da_nil))) (by rfl)) (by decide)) (da_nil)) ⟨fun _ => rfl, trivial⟩)) (dss_nil)))) (by decide) (by decide)
theorem i__law_is_named {P : Program} {w : World} {K : PySem.W.Frag} {mg : Str → Option Value} {base : Heap} {k : Nat} (f__law_reserved : FnI P w K mg base "_law_reserved" F__law_reserved [] 0 1) (f__law_small : FnI P w K mg base "_law_small" F__law_small [] 0 1) (f__law_fine_signs : FnI P w K mg base "_law_fine_signs" F__law_fine_signs [] 0 2) (m_len : mg "len" = none) (m_all : mg "all" = none) (hk : 2 ≤ k) {fa : Addr} {fd : FuncData} (Fu : Fun K "_law_is_named" "_law_is_named" s__law_is_named fa fd) (hm : mg "_law_is_named" = some (.ref fa)) (bi : Binds K fd ["text"] []) : FnI P w K mg base "_law_is_named" F__law_is_named [] 1 (k + 1) := by
  unfold F__law_is_named
  exact
  FnI.mk' Fu (fn_rule Fu sc__law_is_named (b__law_is_named f__law_reserved f__law_small f__law_fine_signs m_len m_all hk) rfl rfl (by decide) (by decide)) hm bi
abbrev s__law_signs : Stmt := topS 15
theorem sc__law_signs : FnScope ["d", "size", "signs", "text", "k"] ["d", "size", "signs"] (defScope s__law_signs) := ⟨rfl, rfl, rfl, by decide +kernel, rfl, by decide +kernel, by decide +kernel⟩
theorem b__law_signs {P : Program} {w : World} {K : PySem.W.Frag} {mg : Str → Option Value} {base : Heap} {k : Nat} (f__law_pick : FnI P w K mg base "_law_pick" F__law_pick [0] 2 2) (m_range : mg "range" = none) (hk : 2 ≤ k) (E : XK) : DSs ⟨P, w, K, mg, base, ["d", "size", "signs", "text", "k"], defScope s__law_signs, fun _ => true, k, E⟩ (defBody s__law_signs) [0, 3, 4] [3, 4] g__law_signs := by
  have nd : (["d", "size", "signs", "text", "k"] : List Str).Nodup := sc__law_signs.nd
  have n0 : NmS ⟨P, w, K, mg, base, ["d", "size", "signs", "text", "k"], defScope s__law_signs, fun _ => true, k, E⟩ 0 "d" := ⟨rfl, .inl rfl, by decide, by decide⟩
  have n1 : NmS ⟨P, w, K, mg, base, ["d", "size", "signs", "text", "k"], defScope s__law_signs, fun _ => true, k, E⟩ 1 "size" := ⟨rfl, .inl rfl, by decide, by decide⟩
  have n2 : NmS ⟨P, w, K, mg, base, ["d", "size", "signs", "text", "k"], defScope s__law_signs, fun _ => true, k, E⟩ 2 "signs" := ⟨rfl, .inl rfl, by decide, by decide⟩
  have n3 : NmS ⟨P, w, K, mg, base, ["d", "size", "signs", "text", "k"], defScope s__law_signs, fun _ => true, k, E⟩ 3 "text" := ⟨rfl, .inl rfl, by decide, by decide⟩
  have t3 : NmT ⟨P, w, K, mg, base, ["d", "size", "signs", "text", "k"], defScope s__law_signs, fun _ => true, k, E⟩ 3 "text" := ⟨nd, rfl, .inl rfl, .inl rfl⟩
  have n4 : NmS ⟨P, w, K, mg, base, ["d", "size", "signs", "text", "k"], defScope s__law_signs, fun _ => true, k, E⟩ 4 "k" := ⟨rfl, .inl rfl, by decide, by decide⟩
  have t4 : NmT ⟨P, w, K, mg, base, ["d", "size", "signs", "text", "k"], defScope s__law_signs, fun _ => true, k, E⟩ 4 "k" := ⟨nd, rfl, .inl rfl, .inl rfl⟩
  exact DSs.monoD (dss_cons (ds_asg t3 (de_str) (fun _ => rfl)) (dss_cons (ds_for (di_rng1 ⟨rfl, m_range⟩ (da_cons (de_sl n1) (da_nil)) ⟨fun _ => rfl, trivial⟩) (tg_nm t4) (dss_cons (ds_asg t3 (de_add (da_cons (de_sl n3) (da_cons (de_call f__law_pick (Nat.le_trans (by decide) hk) rfl (da_cons (de_sl n0) (da_cons (de_sl n2) (da_nil))) ⟨fun _ => rfl, fun _ => rfl, trivial⟩ rfl rfl (by decide)) (da_nil)))) (fun _ => rfl)) (dss_nil)) (fun _ _ => rfl) (by decide)) (dss_cons (ds_ret (de_imm (de_sl n3))) (dss_nil)))) (by decide) (by decide)
theorem i__law_signs {P : Program} {w : World} {K : PySem.W.Frag} {mg : Str → Option Value} {base : Heap} {k : Nat} (f__law_pick : FnI P w K mg base "_law_pick" F__law_pick [0] 2 2) (m_range : mg "range" = none) (hk : 2 ≤ k) {fa : Addr} {fd : FuncData} (Fu : Fun K "_law_signs" "_law_signs" s__law_signs fa fd) (hm : mg "_law_signs" = some (.ref fa)) (bi : Binds K fd ["d", "size", "signs"] []) : FnI P w K mg base "_law_signs" F__law_signs [0] 3 (k + 1) := by
  unfold F__law_signs
  exact
  FnI.mk' Fu (fn_rule Fu sc__law_signs (b__law_signs f__law_pick m_range hk) rfl rfl (by decide) (by decide)) hm bi
abbrev s__law_right : Stmt := topS 16
theorem sc__law_right : FnScope ["d", "size"] ["d", "size"] (defScope s__law_right) := ⟨rfl, rfl, rfl, by decide +kernel, rfl, by decide +kernel, by decide +kernel⟩
theorem b__law_right {P : Program} {w : World} {K : PySem.W.Frag} {mg : Str → Option Value} {base : Heap} {k : Nat} (f__law_pick : FnI P w K mg base "_law_pick" F__law_pick [0] 2 2) (f__law_small : FnI P w K mg base "_law_small" F__law_small [] 0 1) (f__law_signs : FnI P w K mg base "_law_signs" F__law_signs [0] 3 3) (f__law_fine_signs : FnI P w K mg base "_law_fine_signs" F__law_fine_signs [] 0 2) (hk : 3 ≤ k) (E : XK) : DSs ⟨P, w, K, mg, base, ["d", "size"], defScope s__law_right, fun _ => true, k, E⟩ (defBody s__law_right) [0] [] g__law_right := by
  have nd : (["d", "size"] : List Str).Nodup := sc__law_right.nd
  have n0 : NmS ⟨P, w, K, mg, base, ["d", "size"], defScope s__law_right, fun _ => true, k, E⟩ 0 "d" := ⟨rfl, .inl rfl, by decide, by decide⟩
  have n1 : NmS ⟨P, w, K, mg, base, ["d", "size"], defScope s__law_right, fun _ => true, k, E⟩ 1 "size" := ⟨rfl, .inl rfl, by decide, by decide⟩
  exact DSs.monoD (dss_cons (ds_ret (de_add (da_cons (de_call f__law_pick (Nat.le_trans (by decide) hk) rfl (da_cons (de_sl n0) (da_cons (de_call0 f__law_small (Nat.le_trans (by decide) hk) rfl) (da_nil))) ⟨fun _ => rfl, fun _ => rfl, trivial⟩ rfl rfl (by decide)) (da_cons (de_call f__law_signs (Nat.le_trans (by decide) hk) rfl (da_cons (de_sl n0) (da_cons (de_sub (da_cons (de_sl n1) (da_cons (de_int) (da_nil)))) (da_cons (de_call0 f__law_fine_signs (Nat.le_trans (by decide) hk) rfl) (da_nil)))) ⟨fun _ => rfl, fun _ => rfl, fun _ => rfl, trivial⟩ rfl rfl (by decide)) (da_nil))))) (dss_nil)) (by decide) (by decide)
theorem i__law_right {P : Program} {w : World} {K : PySem.W.Frag} {mg : Str → Option Value} {base : Heap} {k : Nat} (f__law_pick : FnI P w K mg base "_law_pick" F__law_pick [0] 2 2) (f__law_small : FnI P w K mg base "_law_small" F__law_small [] 0 1) (f__law_signs : FnI P w K mg base "_law_signs" F__law_signs [0] 3 3) (f__law_fine_signs : FnI P w K mg base "_law_fine_signs" F__law_fine_signs [] 0 2) (hk : 3 ≤ k) {fa : Addr} {fd : FuncData} (Fu : Fun K "_law_right" "_law_right" s__law_right fa fd) (hm : mg "_law_right" = some (.ref fa)) (bi : Binds K fd ["d", "size"] []) : FnI P w K mg base "_law_right" F__law_right [0] 2 (k + 1) := by
  unfold F__law_right
  exact
  FnI.mk' Fu (fn_rule Fu sc__law_right (b__law_right f__law_pick f__law_small f__law_signs f__law_fine_signs hk) rfl rfl (by decide) (by decide)) hm bi
abbrev s__law_put_in : Stmt := topS 17
theorem sc__law_put_in : FnScope ["d", "text", "signs", "at"] ["d", "text", "signs"] (defScope s__law_put_in) := ⟨rfl, rfl, rfl, by decide +kernel, rfl, by decide +kernel, by decide +kernel⟩
theorem b__law_put_in {P : Program} {w : World} {K : PySem.W.Frag} {mg : Str → Option Value} {base : Heap} {k : Nat} (f__law_draw : FnI P w K mg base "_law_draw" F__law_draw [0] 2 1) (f__law_pick : FnI P w K mg base "_law_pick" F__law_pick [0] 2 2) (m_len : mg "len" = none) (hk : 2 ≤ k) (E : XK) : DSs ⟨P, w, K, mg, base, ["d", "text", "signs", "at"], defScope s__law_put_in, fun _ => true, k, E⟩ (defBody s__law_put_in) [0, 3] [3] g__law_put_in := by
  have nd : (["d", "text", "signs", "at"] : List Str).Nodup := sc__law_put_in.nd
  have n0 : NmS ⟨P, w, K, mg, base, ["d", "text", "signs", "at"], defScope s__law_put_in, fun _ => true, k, E⟩ 0 "d" := ⟨rfl, .inl rfl, by decide, by decide⟩
  have n1 : NmS ⟨P, w, K, mg, base, ["d", "text", "signs", "at"], defScope s__law_put_in, fun _ => true, k, E⟩ 1 "text" := ⟨rfl, .inl rfl, by decide, by decide⟩
  have n2 : NmS ⟨P, w, K, mg, base, ["d", "text", "signs", "at"], defScope s__law_put_in, fun _ => true, k, E⟩ 2 "signs" := ⟨rfl, .inl rfl, by decide, by decide⟩
  have n3 : NmS ⟨P, w, K, mg, base, ["d", "text", "signs", "at"], defScope s__law_put_in, fun _ => true, k, E⟩ 3 "at" := ⟨rfl, .inl rfl, by decide, by decide⟩
  have t3 : NmT ⟨P, w, K, mg, base, ["d", "text", "signs", "at"], defScope s__law_put_in, fun _ => true, k, E⟩ 3 "at" := ⟨nd, rfl, .inl rfl, .inl rfl⟩
  exact DSs.monoD (dss_cons (ds_asg t3 (de_call f__law_draw (Nat.le_trans (by decide) hk) rfl (da_cons (de_sl n0) (da_cons (de_add (da_cons (de_len ⟨rfl, m_len⟩ (da_cons (de_sl n1) (da_nil)) ⟨fun _ => rfl, trivial⟩) (da_cons (de_int) (da_nil)))) (da_nil))) ⟨fun _ => rfl, fun _ => rfl, trivial⟩ rfl rfl (by decide)) (fun _ => rfl)) (dss_cons (ds_ret (de_add (da_cons (de_add (da_cons (de_sl01 (da_cons (de_sl n1) (da_cons (de_imm (de_sl n3)) (da_nil)))) (da_cons (de_call f__law_pick (Nat.le_trans (by decide) hk) rfl (da_cons (de_sl n0) (da_cons (de_sl n2) (da_nil))) ⟨fun _ => rfl, fun _ => rfl, trivial⟩ rfl rfl (by decide)) (da_nil)))) (da_cons (de_sl10 (da_cons (de_sl n1) (da_cons (de_imm (de_sl n3)) (da_nil)))) (da_nil))))) (dss_nil))) (by decide) (by decide)
theorem i__law_put_in {P : Program} {w : World} {K : PySem.W.Frag} {mg : Str → Option Value} {base : Heap} {k : Nat} (f__law_draw : FnI P w K mg base "_law_draw" F__law_draw [0] 2 1) (f__law_pick : FnI P w K mg base "_law_pick" F__law_pick [0] 2 2) (m_len : mg "len" = none) (hk : 2 ≤ k) {fa : Addr} {fd : FuncData} (Fu : Fun K "_law_put_in" "_law_put_in" s__law_put_in fa fd) (hm : mg "_law_put_in" = some (.ref fa)) (bi : Binds K fd ["d", "text", "signs"] []) : FnI P w K mg base "_law_put_in" F__law_put_in [0] 3 (k + 1) := by
  unfold F__law_put_in
  exact
  FnI.mk' Fu (fn_rule Fu sc__law_put_in (b__law_put_in f__law_draw f__law_pick m_len hk) rfl rfl (by decide) (by decide)) hm bi
abbrev s__law_exchanged : Stmt := topS 18
theorem sc__law_exchanged : FnScope ["d", "text", "signs", "at"] ["d", "text", "signs"] (defScope s__law_exchanged) := ⟨rfl, rfl, rfl, by decide +kernel, rfl, by decide +kernel, by decide +kernel⟩
theorem b__law_exchanged {P : Program} {w : World} {K : PySem.W.Frag} {mg : Str → Option Value} {base : Heap} {k : Nat} (f__law_draw : FnI P w K mg base "_law_draw" F__law_draw [0] 2 1) (f__law_pick : FnI P w K mg base "_law_pick" F__law_pick [0] 2 2) (m_len : mg "len" = none) (hk : 2 ≤ k) (E : XK) : DSs ⟨P, w, K, mg, base, ["d", "text", "signs", "at"], defScope s__law_exchanged, fun _ => true, k, E⟩ (defBody s__law_exchanged) [0, 3] [3] g__law_exchanged := by
  have nd : (["d", "text", "signs", "at"] : List Str).Nodup := sc__law_exchanged.nd
  have n0 : NmS ⟨P, w, K, mg, base, ["d", "text", "signs", "at"], defScope s__law_exchanged, fun _ => true, k, E⟩ 0 "d" := ⟨rfl, .inl rfl, by decide, by decide⟩
  have n1 : NmS ⟨P, w, K, mg, base, ["d", "text", "signs", "at"], defScope s__law_exchanged, fun _ => true, k, E⟩ 1 "text" := ⟨rfl, .inl rfl, by decide, by decide⟩
  have n2 : NmS ⟨P, w, K, mg, base, ["d", "text", "signs", "at"], defScope s__law_exchanged, fun _ => true, k, E⟩ 2 "signs" := ⟨rfl, .inl rfl, by decide, by decide⟩
  have n3 : NmS ⟨P, w, K, mg, base, ["d", "text", "signs", "at"], defScope s__law_exchanged, fun _ => true, k, E⟩ 3 "at" := ⟨rfl, .inl rfl, by decide, by decide⟩
  have t3 : NmT ⟨P, w, K, mg, base, ["d", "text", "signs", "at"], defScope s__law_exchanged, fun _ => true, k, E⟩ 3 "at" := ⟨nd, rfl, .inl rfl, .inl rfl⟩
  exact DSs.monoD (dss_cons (ds_asg t3 (de_call f__law_draw (Nat.le_trans (by decide) hk) rfl (da_cons (de_sl n0) (da_cons (de_len ⟨rfl, m_len⟩ (da_cons (de_sl n1) (da_nil)) ⟨fun _ => rfl, trivial⟩) (da_nil))) ⟨fun _ => rfl, fun _ => rfl, trivial⟩ rfl rfl (by decide)) (fun _ => rfl)) (dss_cons (ds_ret (de_add (da_cons (de_add (da_cons (de_sl01 (da_cons (de_sl n1) (da_cons (de_imm (de_sl n3)) (da_nil)))) (da_cons (de_call f__law_pick (Nat.le_trans (by decide) hk) rfl (da_cons (de_sl n0) (da_cons (de_sl n2) (da_nil))) ⟨fun _ => rfl, fun _ => rfl, trivial⟩ rfl rfl (by decide)) (da_nil)))) (da_cons (de_sl10 (da_cons (de_sl n1) (da_cons (de_add (da_cons (de_sl n3) (da_cons (de_int) (da_nil)))) (da_nil)))) (da_nil))))) (dss_nil))) (by decide) (by decide)
theorem i__law_exchanged {P : Program} {w : World} {K : PySem.W.Frag} {mg : Str → Option Value} {base : Heap} {k : Nat} (f__law_draw : FnI P w K mg base "_law_draw" F__law_draw [0] 2 1) (f__law_pick : FnI P w K mg base "_law_pick" F__law_pick [0] 2 2) (m_len : mg "len" = none) (hk : 2 ≤ k) {fa : Addr} {fd : FuncData} (Fu : Fun K "_law_exchanged" "_law_exchanged" s__law_exchanged fa fd) (hm : mg "_law_exchanged" = some (.ref fa)) (bi : Binds K fd ["d", "text", "signs"] []) : FnI P w K mg base "_law_exchanged" F__law_exchanged [0] 3 (k + 1) := by
  unfold F__law_exchanged
  exact
  FnI.mk' Fu (fn_rule Fu sc__law_exchanged (b__law_exchanged f__law_draw f__law_pick m_len hk) rfl rfl (by decide) (by decide)) hm bi
abbrev s__law_near_reserved : Stmt := topS 19
theorem sc__law_near_reserved : FnScope ["d", "word", "way", "at"] ["d"] (defScope s__law_near_reserved) := ⟨rfl, rfl, rfl, by decide +kernel, rfl, by decide +kernel, by decide +kernel⟩
theorem b__law_near_reserved {P : Program} {w : World} {K : PySem.W.Frag} {mg : Str → Option Value} {base : Heap} {k : Nat} (f__law_pick : FnI P w K mg base "_law_pick" F__law_pick [0] 2 2) (f__law_reserved : FnI P w K mg base "_law_reserved" F__law_reserved [] 0 1) (f__law_draw : FnI P w K mg base "_law_draw" F__law_draw [0] 2 1) (f__law_put_in : FnI P w K mg base "_law_put_in" F__law_put_in [0] 3 3) (f__law_fine_signs : FnI P w K mg base "_law_fine_signs" F__law_fine_signs [] 0 2) (f__law_exchanged : FnI P w K mg base "_law_exchanged" F__law_exchanged [0] 3 3) (m_len : mg "len" = none) (hk : 3 ≤ k) (E : XK) : DSs ⟨P, w, K, mg, base, ["d", "word", "way", "at"], defScope s__law_near_reserved, fun _ => true, k, E⟩ (defBody s__law_near_reserved) [0, 1, 2, 3] [1, 2, 3] g__law_near_reserved := by
  have nd : (["d", "word", "way", "at"] : List Str).Nodup := sc__law_near_reserved.nd
  have n0 : NmS ⟨P, w, K, mg, base, ["d", "word", "way", "at"], defScope s__law_near_reserved, fun _ => true, k, E⟩ 0 "d" := ⟨rfl, .inl rfl, by decide, by decide⟩
  have n1 : NmS ⟨P, w, K, mg, base, ["d", "word", "way", "at"], defScope s__law_near_reserved, fun _ => true, k, E⟩ 1 "word" := ⟨rfl, .inl rfl, by decide, by decide⟩
  have t1 : NmT ⟨P, w, K, mg, base, ["d", "word", "way", "at"], defScope s__law_near_reserved, fun _ => true, k, E⟩ 1 "word" := ⟨nd, rfl, .inl rfl, .inl rfl⟩
  have n2 : NmS ⟨P, w, K, mg, base, ["d", "word", "way", "at"], defScope s__law_near_reserved, fun _ => true, k, E⟩ 2 "way" := ⟨rfl, .inl rfl, by decide, by decide⟩
  have t2 : NmT ⟨P, w, K, mg, base, ["d", "word", "way", "at"], defScope s__law_near_reserved, fun _ => true, k, E⟩ 2 "way" := ⟨nd, rfl, .inl rfl, .inl rfl⟩
  have n3 : NmS ⟨P, w, K, mg, base, ["d", "word", "way", "at"], defScope s__law_near_reserved, fun _ => true, k, E⟩ 3 "at" := ⟨rfl, .inl rfl, by decide, by decide⟩
  have t3 : NmT ⟨P, w, K, mg, base, ["d", "word", "way", "at"], defScope s__law_near_reserved, fun _ => true, k, E⟩ 3 "at" := ⟨nd, rfl, .inl rfl, .inl rfl⟩
  exact DSs.monoD (dss_cons (ds_asg t1 (de_call f__law_pick (Nat.le_trans (by decide) hk) rfl (da_cons (de_sl n0) (da_cons (de_call0 f__law_reserved (Nat.le_trans (by decide) hk) rfl) (da_nil))) ⟨fun _ => rfl, fun _ => rfl, trivial⟩ rfl rfl (by decide)) (fun _ => rfl)) (dss_cons (ds_asg t2 (de_call f__law_draw (Nat.le_trans (by decide) hk) rfl (da_cons (de_sl n0) (da_cons (de_int) (da_nil))) ⟨fun _ => rfl, fun _ => rfl, trivial⟩ rfl rfl (by decide)) (fun _ => rfl)) (dss_cons (ds_if (dt_cmp co_eq (da_cons (de_sl n2) (da_cons (de_int) (da_nil))) (nomark _)) (dss_cons (ds_ret (de_call f__law_put_in (Nat.le_trans (by decide) hk) rfl (da_cons (de_sl n0) (da_cons (de_imm (de_sl n1)) (da_cons (de_call0 f__law_fine_signs (Nat.le_trans (by decide) hk) rfl) (da_nil)))) ⟨fun _ => rfl, fun _ => rfl, fun _ => rfl, trivial⟩ rfl rfl (by decide))) (dss_nil)) (dss_nil)) (dss_cons (ds_if (dt_cmp co_eq (da_cons (de_sl n2) (da_cons (de_int) (da_nil))) (nomark _)) (dss_cons (ds_asg t3 (de_call f__law_draw (Nat.le_trans (by decide) hk) rfl (da_cons (de_sl n0) (da_cons (de_len ⟨rfl, m_len⟩ (da_cons (de_sl n1) (da_nil)) ⟨fun _ => rfl, trivial⟩) (da_nil))) ⟨fun _ => rfl, fun _ => rfl, trivial⟩ rfl rfl (by decide)) (fun _ => rfl)) (dss_cons (ds_ret (de_add (da_cons (de_sl01 (da_cons (de_sl n1) (da_cons (de_imm (de_sl n3)) (da_nil)))) (da_cons (de_sl10 (da_cons (de_sl n1) (da_cons (de_add (da_cons (de_sl n3) (da_cons (de_int) (da_nil)))) (da_nil)))) (da_nil))))) (dss_nil))) (dss_nil)) (dss_cons (ds_if (dt_cmp co_eq (da_cons (de_sl n2) (da_cons (de_int) (da_nil))) (nomark _)) (dss_cons (ds_ret (de_call f__law_exchanged (Nat.le_trans (by decide) hk) rfl (da_cons (de_sl n0) (da_cons (de_imm (de_sl n1)) (da_cons (de_call0 f__law_fine_signs (Nat.le_trans (by decide) hk) rfl) (da_nil)))) ⟨fun _ => rfl, fun _ => rfl, fun _ => rfl, trivial⟩ rfl rfl (by decide))) (dss_nil)) (dss_nil)) (dss_cons (ds_if (dt_cmp co_eq (da_cons (de_sl n2) (da_cons (de_int) (da_nil))) (nomark _)) (dss_cons (ds_ret (de_call f__law_exchanged (Nat.le_trans (by decide) hk) rfl (da_cons (de_sl n0) (da_cons (de_imm (de_sl n1)) (da_cons (de_upper (da_cons (de_sl n1) (da_nil)) (fun _ => rfl) rfl) (da_nil)))) ⟨fun _ => rfl, fun _ => rfl, fun _ => rfl, trivial⟩ rfl rfl (by decide))) (dss_nil)) (dss_nil)) (dss_cons (ds_if (dt_cmp co_eq (da_cons (de_sl n2) (da_cons (de_int) (da_nil))) (nomark _)) (dss_cons (ds_ret (de_add (da_cons (de_sl n1) (da_cons (de_call f__law_pick (Nat.le_trans (by decide) hk) rfl (da_cons (de_sl n0) (da_cons (de_call0 f__law_reserved (Nat.le_trans (by decide) hk) rfl) (da_nil))) ⟨fun _ => rfl, fun _ => rfl, trivial⟩ rfl rfl (by decide)) (da_nil))))) (dss_nil)) (dss_nil)) (dss_cons (ds_ret (de_upper (da_cons (de_sl n1) (da_nil)) (fun _ => rfl) rfl)) (dss_nil))))))))) (by decide) (by decide)
theorem i__law_near_reserved {P : Program} {w : World} {K : PySem.W.Frag} {mg : Str → Option Value} {base : Heap} {k : Nat} (f__law_pick : FnI P w K mg base "_law_pick" F__law_pick [0] 2 2) (f__law_reserved : FnI P w K mg base "_law_reserved" F__law_reserved [] 0 1) (f__law_draw : FnI P w K mg base "_law_draw" F__law_draw [0] 2 1) (f__law_put_in : FnI P w K mg base "_law_put_in" F__law_put_in [0] 3 3) (f__law_fine_signs : FnI P w K mg base "_law_fine_signs" F__law_fine_signs [] 0 2) (f__law_exchanged : FnI P w K mg base "_law_exchanged" F__law_exchanged [0] 3 3) (m_len : mg "len" = none) (hk : 3 ≤ k) {fa : Addr} {fd : FuncData} (Fu : Fun K "_law_near_reserved" "_law_near_reserved" s__law_near_reserved fa fd) (hm : mg "_law_near_reserved" = some (.ref fa)) (bi : Binds K fd ["d"] []) : FnI P w K mg base "_law_near_reserved" F__law_near_reserved [0] 1 (k + 1) := by
  unfold F__law_near_reserved
  exact
  FnI.mk' Fu (fn_rule Fu sc__law_near_reserved (b__law_near_reserved f__law_pick f__law_reserved f__law_draw f__law_put_in f__law_fine_signs f__law_exchanged m_len hk) rfl rfl (by decide) (by decide)) hm bi
abbrev s__law_string : Stmt := topS 20
theorem sc__law_string : FnScope ["d", "way"] ["d"] (defScope s__law_string) := ⟨rfl, rfl, rfl, by decide +kernel, rfl, by decide +kernel, by decide +kernel⟩
theorem b__law_string {P : Program} {w : World} {K : PySem.W.Frag} {mg : Str → Option Value} {base : Heap} {k : Nat} (f__law_draw : FnI P w K mg base "_law_draw" F__law_draw [0] 2 1) (f__law_right : FnI P w K mg base "_law_right" F__law_right [0] 2 4) (f__law_put_in : FnI P w K mg base "_law_put_in" F__law_put_in [0] 3 3) (f__law_odd_signs : FnI P w K mg base "_law_odd_signs" F__law_odd_signs [] 0 1) (f__law_exchanged : FnI P w K mg base "_law_exchanged" F__law_exchanged [0] 3 3) (f__law_pick : FnI P w K mg base "_law_pick" F__law_pick [0] 2 2) (f__law_signs : FnI P w K mg base "_law_signs" F__law_signs [0] 3 3) (f__law_fine_signs : FnI P w K mg base "_law_fine_signs" F__law_fine_signs [] 0 2) (f__law_near_reserved : FnI P w K mg base "_law_near_reserved" F__law_near_reserved [0] 1 4) (hk : 4 ≤ k) (E : XK) : DSs ⟨P, w, K, mg, base, ["d", "way"], defScope s__law_string, fun _ => true, k, E⟩ (defBody s__law_string) [0, 1] [1] g__law_string := by
  have nd : (["d", "way"] : List Str).Nodup := sc__law_string.nd
  have n0 : NmS ⟨P, w, K, mg, base, ["d", "way"], defScope s__law_string, fun _ => true, k, E⟩ 0 "d" := ⟨rfl, .inl rfl, by decide, by decide⟩
  have n1 : NmS ⟨P, w, K, mg, base, ["d", "way"], defScope s__law_string, fun _ => true, k, E⟩ 1 "way" := ⟨rfl, .inl rfl, by decide, by decide⟩
  have t1 : NmT ⟨P, w, K, mg, base, ["d", "way"], defScope s__law_string, fun _ => true, k, E⟩ 1 "way" := ⟨nd, rfl, .inl rfl, .inl rfl⟩
  exact DSs.monoD (dss_cons (ds_asg t1 (de_call f__law_draw (Nat.le_trans (by decide) hk) rfl (da_cons (de_sl n0) (da_cons (de_int) (da_nil))) ⟨fun _ => rfl, fun _ => rfl, trivial⟩ rfl rfl (by decide)) (fun _ => rfl)) (dss_cons (ds_if (dt_cmp co_eq (da_cons (de_sl n1) (da_cons (de_int) (da_nil))) (nomark _)) (dss_cons (ds_ret (de_call f__law_right (Nat.le_trans (by decide) hk) rfl (da_cons (de_sl n0) (da_cons (de_add (da_cons (de_int) (da_cons (de_call f__law_draw (Nat.le_trans (by decide) hk) rfl (da_cons (de_sl n0) (da_cons (de_int) (da_nil))) ⟨fun _ => rfl, fun _ => rfl, trivial⟩ rfl rfl (by decide)) (da_nil)))) (da_nil))) ⟨fun _ => rfl, fun _ => rfl, trivial⟩ rfl rfl (by decide))) (dss_nil)) (dss_nil)) (dss_cons (ds_if (dt_cmp co_eq (da_cons (de_sl n1) (da_cons (de_int) (da_nil))) (nomark _)) (dss_cons (ds_ret (de_call f__law_right (Nat.le_trans (by decide) hk) rfl (da_cons (de_sl n0) (da_cons (de_add (da_cons (de_int) (da_cons (de_call f__law_draw (Nat.le_trans (by decide) hk) rfl (da_cons (de_sl n0) (da_cons (de_int) (da_nil))) ⟨fun _ => rfl, fun _ => rfl, trivial⟩ rfl rfl (by decide)) (da_nil)))) (da_nil))) ⟨fun _ => rfl, fun _ => rfl, trivial⟩ rfl rfl (by decide))) (dss_nil)) (dss_nil)) (dss_cons (ds_if (dt_cmp co_eq (da_cons (de_sl n1) (da_cons (de_int) (da_nil))) (nomark _)) (dss_cons (ds_ret (de_call f__law_right (Nat.le_trans (by decide) hk) rfl (da_cons (de_sl n0) (da_cons (de_add (da_cons (de_int) (da_cons (de_call f__law_draw (Nat.le_trans (by decide) hk) rfl (da_cons (de_sl n0) (da_cons (de_int) (da_nil))) ⟨fun _ => rfl, fun _ => rfl, trivial⟩ rfl rfl (by decide)) (da_nil)))) (da_nil))) ⟨fun _ => rfl, fun _ => rfl, trivial⟩ rfl rfl (by decide))) (dss_nil)) (dss_nil)) (dss_cons (ds_if (dt_cmp co_eq (da_cons (de_sl n1) (da_cons (de_int) (da_nil))) (nomark _)) (dss_cons (ds_ret (de_call f__law_put_in (Nat.le_trans (by decide) hk) rfl (da_cons (de_sl n0) (da_cons (de_call f__law_right (Nat.le_trans (by decide) hk) rfl (da_cons (de_sl n0) (da_cons (de_add (da_cons (de_int) (da_cons (de_call f__law_draw (Nat.le_trans (by decide) hk) rfl (da_cons (de_sl n0) (da_cons (de_int) (da_nil))) ⟨fun _ => rfl, fun _ => rfl, trivial⟩ rfl rfl (by decide)) (da_nil)))) (da_nil))) ⟨fun _ => rfl, fun _ => rfl, trivial⟩ rfl rfl (by decide)) (da_cons (de_call0 f__law_odd_signs (Nat.le_trans (by decide) hk) rfl) (da_nil)))) ⟨fun _ => rfl, fun _ => rfl, fun _ => rfl, trivial⟩ rfl rfl (by decide))) (dss_nil)) (dss_nil)) (dss_cons (ds_if (dt_cmp co_eq (da_cons (de_sl n1) (da_cons (de_int) (da_nil))) (nomark _)) (dss_cons (ds_ret (de_call f__law_exchanged (Nat.le_trans (by decide) hk) rfl (da_cons (de_sl n0) (da_cons (de_call f__law_right (Nat.le_trans (by decide) hk) rfl (da_cons (de_sl n0) (da_cons (de_add (da_cons (de_int) (da_cons (de_call f__law_draw (Nat.le_trans (by decide) hk) rfl (da_cons (de_sl n0) (da_cons (de_int) (da_nil))) ⟨fun _ => rfl, fun _ => rfl, trivial⟩ rfl rfl (by decide)) (da_nil)))) (da_nil))) ⟨fun _ => rfl, fun _ => rfl, trivial⟩ rfl rfl (by decide)) (da_cons (de_add (da_cons (de_call0 f__law_odd_signs (Nat.le_trans (by decide) hk) rfl) (da_cons (de_str) (da_nil)))) (da_nil)))) ⟨fun _ => rfl, fun _ => rfl, fun _ => rfl, trivial⟩ rfl rfl (by decide))) (dss_nil)) (dss_nil)) (dss_cons (ds_if (dt_cmp co_eq (da_cons (de_sl n1) (da_cons (de_int) (da_nil))) (nomark _)) (dss_cons (ds_ret (de_add (da_cons (de_call f__law_pick (Nat.le_trans (by decide) hk) rfl (da_cons (de_sl n0) (da_cons (de_str) (da_nil))) ⟨fun _ => rfl, fun _ => rfl, trivial⟩ rfl rfl (by decide)) (da_cons (de_call f__law_signs (Nat.le_trans (by decide) hk) rfl (da_cons (de_sl n0) (da_cons (de_call f__law_draw (Nat.le_trans (by decide) hk) rfl (da_cons (de_sl n0) (da_cons (de_int) (da_nil))) ⟨fun _ => rfl, fun _ => rfl, trivial⟩ rfl rfl (by decide)) (da_cons (de_call0 f__law_fine_signs (Nat.le_trans (by decide) hk) rfl) (da_nil)))) ⟨fun _ => rfl, fun _ => rfl, fun _ => rfl, trivial⟩ rfl rfl (by decide)) (da_nil))))) (dss_nil)) (dss_nil)) (dss_cons (ds_if (dt_cmp co_eq (da_cons (de_sl n1) (da_cons (de_int) (da_nil))) (nomark _)) (dss_cons (ds_ret (de_call f__law_near_reserved (Nat.le_trans (by decide) hk) rfl (da_cons (de_sl n0) (da_nil)) ⟨fun _ => rfl, trivial⟩ rfl rfl (by decide))) (dss_nil)) (dss_nil)) (dss_cons (ds_ret (de_call f__law_signs (Nat.le_trans (by decide) hk) rfl (da_cons (de_sl n0) (da_cons (de_call f__law_draw (Nat.le_trans (by decide) hk) rfl (da_cons (de_sl n0) (da_cons (de_int) (da_nil))) ⟨fun _ => rfl, fun _ => rfl, trivial⟩ rfl rfl (by decide)) (da_cons (de_add (da_cons (de_call0 f__law_fine_signs (Nat.le_trans (by decide) hk) rfl) (da_cons (de_call0 f__law_odd_signs (Nat.le_trans (by decide) hk) rfl) (da_nil)))) (da_nil)))) ⟨fun _ => rfl, fun _ => rfl, fun _ => rfl, trivial⟩ rfl rfl (by decide))) (dss_nil)))))))))) (by decide) (by decide)
theorem i__law_string {P : Program} {w : World} {K : PySem.W.Frag} {mg : Str → Option Value} {base : Heap} {k : Nat} (f__law_draw : FnI P w K mg base "_law_draw" F__law_draw [0] 2 1) (f__law_right : FnI P w K mg base "_law_right" F__law_right [0] 2 4) (f__law_put_in : FnI P w K mg base "_law_put_in" F__law_put_in [0] 3 3) (f__law_odd_signs : FnI P w K mg base "_law_odd_signs" F__law_odd_signs [] 0 1) (f__law_exchanged : FnI P w K mg base "_law_exchanged" F__law_exchanged [0] 3 3) (f__law_pick : FnI P w K mg base "_law_pick" F__law_pick [0] 2 2) (f__law_signs : FnI P w K mg base "_law_signs" F__law_signs [0] 3 3) (f__law_fine_signs : FnI P w K mg base "_law_fine_signs" F__law_fine_signs [] 0 2) (f__law_near_reserved : FnI P w K mg base "_law_near_reserved" F__law_near_reserved [0] 1 4) (hk : 4 ≤ k) {fa : Addr} {fd : FuncData} (Fu : Fun K "_law_string" "_law_string" s__law_string fa fd) (hm : mg "_law_string" = some (.ref fa)) (bi : Binds K fd ["d"] []) : FnI P w K mg base "_law_string" F__law_string [0] 1 (k + 1) := by
  unfold F__law_string
  exact
  FnI.mk' Fu (fn_rule Fu sc__law_string (b__law_string f__law_draw f__law_right f__law_put_in f__law_odd_signs f__law_exchanged f__law_pick f__law_signs f__law_fine_signs f__law_near_reserved hk) rfl rfl (by decide) (by decide)) hm bi
abbrev s_law : Stmt := topS 21
theorem sc_law : FnScope ["script", "d", "texts", "ahead", "behind", "sign", "text", "told", "k"] ["script"] (defScope s_law) := ⟨rfl, rfl, rfl, by decide +kernel, rfl, by decide +kernel, by decide +kernel⟩
theorem b_law {P : Program} {w : World} {K : PySem.W.Frag} {mg : Str → Option Value} {base : Heap} {k : Nat} (f__law_string : FnI P w K mg base "_law_string" F__law_string [0] 1 5) (f__law_right : FnI P w K mg base "_law_right" F__law_right [0] 2 4) (f__law_reserved : FnI P w K mg base "_law_reserved" F__law_reserved [] 0 1) (f__law_draw : FnI P w K mg base "_law_draw" F__law_draw [0] 2 1) (f__law_signs : FnI P w K mg base "_law_signs" F__law_signs [0] 3 3) (f__law_fine_signs : FnI P w K mg base "_law_fine_signs" F__law_fine_signs [] 0 2) (f__law_odd_signs : FnI P w K mg base "_law_odd_signs" F__law_odd_signs [] 0 1) (f_is_name : FnI P w K mg base "is_name" F_is_name [] 1 1) (f__law_is_named : FnI P w K mg base "_law_is_named" F__law_is_named [] 1 3) (m_range : mg "range" = none) (m_list : mg "list" = none) (m_reversed : mg "reversed" = none) (m_isinstance : mg "isinstance" = none) (m_bool : mg "bool" = none) (hk : 5 ≤ k) (E : XK) : DSs ⟨P, w, K, mg, base, ["script", "d", "texts", "ahead", "behind", "sign", "text", "told", "k"], defScope s_law, fun _ => true, k, E⟩ ((defBody s_law).tail) [1, 2, 3, 4, 5, 6, 7] [1, 2, 3, 4, 5, 6, 7] g_law := by
  have nd : (["script", "d", "texts", "ahead", "behind", "sign", "text", "told", "k"] : List Str).Nodup := sc_law.nd
  have n0 : NmS ⟨P, w, K, mg, base, ["script", "d", "texts", "ahead", "behind", "sign", "text", "told", "k"], defScope s_law, fun _ => true, k, E⟩ 0 "script" := ⟨rfl, .inl rfl, by decide, by decide⟩
  have n1 : NmS ⟨P, w, K, mg, base, ["script", "d", "texts", "ahead", "behind", "sign", "text", "told", "k"], defScope s_law, fun _ => true, k, E⟩ 1 "d" := ⟨rfl, .inr (.inl rfl), by decide, by decide⟩
  have t1 : NmT ⟨P, w, K, mg, base, ["script", "d", "texts", "ahead", "behind", "sign", "text", "told", "k"], defScope s_law, fun _ => true, k, E⟩ 1 "d" := ⟨nd, rfl, .inr rfl, .inl rfl⟩
  have n2 : NmS ⟨P, w, K, mg, base, ["script", "d", "texts", "ahead", "behind", "sign", "text", "told", "k"], defScope s_law, fun _ => true, k, E⟩ 2 "texts" := ⟨rfl, .inl rfl, by decide, by decide⟩
  have t2 : NmT ⟨P, w, K, mg, base, ["script", "d", "texts", "ahead", "behind", "sign", "text", "told", "k"], defScope s_law, fun _ => true, k, E⟩ 2 "texts" := ⟨nd, rfl, .inl rfl, .inl rfl⟩
  have n3 : NmS ⟨P, w, K, mg, base, ["script", "d", "texts", "ahead", "behind", "sign", "text", "told", "k"], defScope s_law, fun _ => true, k, E⟩ 3 "ahead" := ⟨rfl, .inl rfl, by decide, by decide⟩
  have t3 : NmT ⟨P, w, K, mg, base, ["script", "d", "texts", "ahead", "behind", "sign", "text", "told", "k"], defScope s_law, fun _ => true, k, E⟩ 3 "ahead" := ⟨nd, rfl, .inl rfl, .inl rfl⟩
  have n4 : NmS ⟨P, w, K, mg, base, ["script", "d", "texts", "ahead", "behind", "sign", "text", "told", "k"], defScope s_law, fun _ => true, k, E⟩ 4 "behind" := ⟨rfl, .inl rfl, by decide, by decide⟩
  have t4 : NmT ⟨P, w, K, mg, base, ["script", "d", "texts", "ahead", "behind", "sign", "text", "told", "k"], defScope s_law, fun _ => true, k, E⟩ 4 "behind" := ⟨nd, rfl, .inl rfl, .inl rfl⟩
  have n5 : NmS ⟨P, w, K, mg, base, ["script", "d", "texts", "ahead", "behind", "sign", "text", "told", "k"], defScope s_law, fun _ => true, k, E⟩ 5 "sign" := ⟨rfl, .inl rfl, by decide, by decide⟩
  have t5 : NmT ⟨P, w, K, mg, base, ["script", "d", "texts", "ahead", "behind", "sign", "text", "told", "k"], defScope s_law, fun _ => true, k, E⟩ 5 "sign" := ⟨nd, rfl, .inl rfl, .inl rfl⟩
  have n6 : NmS ⟨P, w, K, mg, base, ["script", "d", "texts", "ahead", "behind", "sign", "text", "told", "k"], defScope s_law, fun _ => true, k, E⟩ 6 "text" := ⟨rfl, .inl rfl, by decide, by decide⟩
  have t6 : NmT ⟨P, w, K, mg, base, ["script", "d", "texts", "ahead", "behind", "sign", "text", "told", "k"], defScope s_law, fun _ => true, k, E⟩ 6 "text" := ⟨nd, rfl, .inl rfl, .inl rfl⟩
  have n7 : NmS ⟨P, w, K, mg, base, ["script", "d", "texts", "ahead", "behind", "sign", "text", "told", "k"], defScope s_law, fun _ => true, k, E⟩ 7 "told" := ⟨rfl, .inl rfl, by decide, by decide⟩
  have t7 : NmT ⟨P, w, K, mg, base, ["script", "d", "texts", "ahead", "behind", "sign", "text", "told", "k"], defScope s_law, fun _ => true, k, E⟩ 7 "told" := ⟨nd, rfl, .inl rfl, .inl rfl⟩
  exact DSs.monoD (dss_cons (ds_asg t2 (de_add (da_cons (de_add (da_cons (de_comp nd (own := [("k", 8)]) (di_rng1 ⟨rfl, m_range⟩ (da_cons (de_int) (da_nil)) ⟨fun _ => rfl, trivial⟩) (blkOk_by (by show blkC ["script", "d", "texts", "ahead", "behind", "sign", "text", "told", "k"] (defScope s_law) _ _ = true; decide +kernel)) (fun _ _ => rfl) (tg_nm ⟨nd, rfl, .inl rfl, .inr rfl⟩) (by decide) (dts_nil) (de_call f__law_string (Nat.le_trans (by decide) hk) rfl (da_cons (de_sl (⟨rfl, (by first | exact .inr (.inl rfl) | exact .inr (.inr rfl)), by decide, by decide⟩ : NmS _ 1 "d")) (da_nil)) ⟨fun _ => rfl, trivial⟩ rfl rfl (by decide)) (by decide)) (da_cons (de_lst (da_cons (de_call f__law_right (Nat.le_trans (by decide) hk) rfl (da_cons (de_sl n1) (da_cons (de_int) (da_nil))) ⟨fun _ => rfl, fun _ => rfl, trivial⟩ rfl rfl (by decide)) (da_cons (de_call f__law_right (Nat.le_trans (by decide) hk) rfl (da_cons (de_sl n1) (da_cons (de_int) (da_nil))) ⟨fun _ => rfl, fun _ => rfl, trivial⟩ rfl rfl (by decide)) (da_cons (de_str) (da_nil)))) rfl ⟨fun _ => rfl, fun _ => rfl, fun _ => rfl, trivial⟩) (da_nil)))) (da_cons (de_call0 f__law_reserved (Nat.le_trans (by decide) hk) rfl) (da_nil)))) (fun _ => rfl)) (dss_cons (ds_asg t3 (de_call f__law_right (Nat.le_trans (by decide) hk) rfl (da_cons (de_sl n1) (da_cons (de_add (da_cons (de_int) (da_cons (de_call f__law_draw (Nat.le_trans (by decide) hk) rfl (da_cons (de_sl n1) (da_cons (de_int) (da_nil))) ⟨fun _ => rfl, fun _ => rfl, trivial⟩ rfl rfl (by decide)) (da_nil)))) (da_nil))) ⟨fun _ => rfl, fun _ => rfl, trivial⟩ rfl rfl (by decide)) (fun _ => rfl)) (dss_cons (ds_asg t4 (de_call f__law_signs (Nat.le_trans (by decide) hk) rfl (da_cons (de_sl n1) (da_cons (de_add (da_cons (de_int) (da_cons (de_call f__law_draw (Nat.le_trans (by decide) hk) rfl (da_cons (de_sl n1) (da_cons (de_int) (da_nil))) ⟨fun _ => rfl, fun _ => rfl, trivial⟩ rfl rfl (by decide)) (da_nil)))) (da_cons (de_call0 f__law_fine_signs (Nat.le_trans (by decide) hk) rfl) (da_nil)))) ⟨fun _ => rfl, fun _ => rfl, fun _ => rfl, trivial⟩ rfl rfl (by decide)) (fun _ => rfl)) (dss_cons (ds_for (di_seq (de_add (da_cons (de_call0 f__law_fine_signs (Nat.le_trans (by decide) hk) rfl) (da_cons (de_call0 f__law_odd_signs (Nat.le_trans (by decide) hk) rfl) (da_nil))))) (tg_nm t5) (dss_cons (ds_asg t2 (de_add (da_cons (de_sl n2) (da_cons (de_lst (da_cons (de_imm (de_sl n5)) (da_cons (de_add (da_cons (de_sl n3) (da_cons (de_sl n5) (da_nil)))) (da_cons (de_add (da_cons (de_sl n5) (da_cons (de_sl n4) (da_nil)))) (da_cons (de_add (da_cons (de_add (da_cons (de_sl01 (da_cons (de_sl n3) (da_cons (de_int) (da_nil)))) (da_cons (de_sl n5) (da_nil)))) (da_cons (de_sl01 (da_cons (de_sl n4) (da_cons (de_int) (da_nil)))) (da_nil)))) (da_nil))))) rfl ⟨fun _ => rfl, fun _ => rfl, fun _ => rfl, fun _ => rfl, trivial⟩) (da_nil)))) (fun _ => rfl)) (dss_nil)) (fun _ _ => rfl) (by decide)) (dss_cons (ds_for (di_seq (de_add (da_cons (de_sl n2) (da_cons (de_listRev ⟨rfl, m_list⟩ ⟨rfl, m_reversed⟩ (da_cons (de_sl n2) (da_nil)) ⟨fun _ => rfl, trivial⟩ ⟨fun _ => rfl, trivial⟩) (da_nil))))) (tg_nm t6) (dss_cons (ds_asg t7 (de_call f_is_name (Nat.le_trans (by decide) hk) rfl (da_cons (de_imm (de_sl n6)) (da_nil)) ⟨fun _ => rfl, trivial⟩ rfl rfl (by decide)) (fun _ => rfl)) (dss_cons (ds_if (dt_w (dw_or (dt_not (dt_tr (de_isi ⟨rfl, m_isinstance⟩ ⟨rfl, m_bool⟩ (by decide +kernel) (da_cons (de_sl n7) (da_nil)) ⟨fun _ => rfl, fun _ => rfl, trivial⟩) (fun _ _ => rfl))) (dw_or1 (dt_cmp co_ne (da_cons (de_sl n7) (da_cons (de_call f__law_is_named (Nat.le_trans (by decide) hk) rfl (da_cons (de_imm (de_sl n6)) (da_nil)) ⟨fun _ => rfl, trivial⟩ rfl rfl (by decide)) (da_nil))) (nomark _))))) (dss_cons (ds_ret (de_bl)) (dss_nil)) (dss_nil)) (dss_nil))) (fun _ _ => rfl) (by decide)) (dss_cons (ds_ret (de_bl)) (dss_nil))))))) (by decide) (by decide)
theorem i_law {P : Program} {w : World} {K : PySem.W.Frag} {mg : Str → Option Value} {base : Heap} {k : Nat} (f__law_string : FnI P w K mg base "_law_string" F__law_string [0] 1 5) (f__law_right : FnI P w K mg base "_law_right" F__law_right [0] 2 4) (f__law_reserved : FnI P w K mg base "_law_reserved" F__law_reserved [] 0 1) (f__law_draw : FnI P w K mg base "_law_draw" F__law_draw [0] 2 1) (f__law_signs : FnI P w K mg base "_law_signs" F__law_signs [0] 3 3) (f__law_fine_signs : FnI P w K mg base "_law_fine_signs" F__law_fine_signs [] 0 2) (f__law_odd_signs : FnI P w K mg base "_law_odd_signs" F__law_odd_signs [] 0 1) (f_is_name : FnI P w K mg base "is_name" F_is_name [] 1 1) (f__law_is_named : FnI P w K mg base "_law_is_named" F__law_is_named [] 1 3) (m_range : mg "range" = none) (m_list : mg "list" = none) (m_reversed : mg "reversed" = none) (m_isinstance : mg "isinstance" = none) (m_bool : mg "bool" = none) (hk : 5 ≤ k) {fa fb : Addr} {fd fdb : FuncData} (Fu : Fun K "law" "law" s_law fa fd) (FB : FnOk P w K mg base (L2.CX P w) 1 fb fdb ["script"] (spBegin K)) (hmb : mg "_law_begin" = some (.ref fb)) (kpb : PySem.W.keepIn K (.ref fb) = true) (bib : Binds K fdb ["script"] [])
    (hg : ∀ ns : List Int, ns.length ≤ 63 → wp (g_law (none :: some (dst ⟨ns, 0, 0, 7⟩) :: List.replicate 7 none)) fun fl _ => fl = .rt (.bool true)) : FnOk P w K mg base (L2.CX P w) (k + 1) fa fd ["script"] (spLaw K) :=
  law_rule Fu sc_law FB hmb kpb bib (Nat.le_trans (by decide) hk) rfl rfl (fun _ => ⟨rfl, .inl rfl, by decide, by decide⟩) (fun _ => ⟨sc_law.nd, rfl, .inr rfl, .inl rfl⟩) rfl (fun E => b_law f__law_string f__law_right f__law_reserved f__law_draw f__law_signs f__law_fine_signs f__law_odd_signs f_is_name f__law_is_named m_range m_list m_reversed m_isinstance m_bool (Nat.le_trans (by decide) hk) E) hg
end K01
namespace K01
open PySem PySem.Spec PyProof.Rows L2 DL
local macro_rules | `(tactic| walk_at "w1") => `(tactic| first
  | ((with_reducible apply w_sl); exact rfl) | ((with_reducible apply w_mv); exact rfl) | ((with_reducible apply w_augI); exact rfl) | ((with_reducible apply w_setI); exact rfl) | ((with_reducible apply w_app); exact rfl) 
  | with_reducible first
  | apply w_seq | apply w_cont | apply w_contR | apply w_nx | apply w_contC | apply w_contB | apply w_if | apply w_ret | apply w_retN | apply w_asg | apply w_drop
  | apply w_asgT | apply w_args_nil | apply w_args | apply w_V | apply w_c | apply w_imm | apply w_bl | apply w_tr
  | apply w_not | apply w_and | apply w_or | apply w_ofB | apply w_ifE | apply w_call | apply w_items | apply w_rng
  | apply w_map0 | apply w_map1 | apply w_map2 | apply w_map3 | apply w_map4 | apply w_map5 | apply w_map6 | apply w_for | apply w_intC | apply w_ok)
local macro_rules | `(tactic| walk_at "side") => `(tactic| first | assumption | omega | with_reducible rfl | rfl | decide | (simp only [decide_eq_true_eq, decide_eq_false_iff_not, List.length_map]; omega))
local macro_rules | `(tactic| walk_at "num") => `(tactic| first | omega | (refine ⟨by omega, by omega⟩) | (show CDiv _ _; exact ⟨by omega, by omega⟩) | (show CMul _ _; first | exact .inl ⟨by omega, by omega⟩ | exact .inr ⟨by omega, by omega⟩) | (show CPow _ _; exact ⟨by decide, by decide, by decide⟩))
local macro_rules | `(tactic| walk_at "val") => `(tactic| first
  | assumption
  | ((with_reducible apply DL.v_mul); walk_at "num") | ((with_reducible apply DL.v_fdiv); walk_at "num") | ((with_reducible apply DL.v_mod); omega) | ((with_reducible apply DL.v_adds); walk_at "num") | ((with_reducible apply DL.v_len_str); walk_at "side") | (with_reducible exact DL.v_len_list) | ((with_reducible apply DL.v_rng1); omega)
  | ((with_reducible apply DL.v_lst); decide) | ((with_reducible apply DL.v_list_l); assumption) | ((with_reducible apply DL.v_addl) <;> walk_at "side") | walk_at "val2" | exact rfl)
local macro_rules | `(tactic| walk_at "val2") => `(tactic| fail)
local macro_rules | `(tactic| walk_at "ex") => `(tactic| first | refine ⟨_, by walk_at "val", ?_⟩ | refine ⟨rfl, ?_⟩)
local macro_rules | `(tactic| walk_at "br") => `(tactic| first | (with_reducible refine w_iteT (by walk_at "side") ?_) | (with_reducible refine w_iteF (by walk_at "side") ?_) | ((with_reducible apply w_iteD) <;> intro))
local macro_rules | `(tactic| walk_at "go") => `(tactic| repeat' (first | walk_at "w1" | exact rfl | walk_at "more" | walk_at "br" | walk_at "ex" | fail))
local macro_rules | `(tactic| walk_at "more") => `(tactic| fail)
set_option hygiene false in
local macro_rules | `(tactic| walk_at "more") => `(tactic| first
  | (with_reducible refine draw_w ?_ ?_; walk_at "num"; intro v s' hv0 hv1))
theorem len1 (c : Nat) : (⟨#[c]⟩ : Str).length = 1 := rfl
theorem len_add (x y : Str) : (x ++ y).length = x.length + y.length := by
  show (x.cps ++ y.cps).size = _
  simp [Str.length]
theorem at_toNat {α : Type} {xs : List α} {v : Int} (h0 : 0 ≤ v) (h1 : v < xs.length) : ∃ x, x ∈ xs ∧ atI xs v = some x := by
  obtain ⟨n, rfl⟩ := Int.eq_ofNat_of_zero_le h0
  have hj : n < xs.length := by omega
  exact ⟨xs[n], List.getElem_mem hj, atI_nat (List.getElem?_eq_getElem hj)⟩
theorem pick_w {s : DSt} {row : D} {n : Nat} {Q : D → DEnv → Prop} (hl : lenD row = some n) (hn : 0 < n ∧ n < 1073741824) (P : D → Prop) (hx : ∀ v : Int, 0 ≤ v → v < n → ∃ x, ixD row (.int v) = some x ∧ imm x = true ∧ P x) (h : ∀ x s', P x → Q x [some (dst s'), some row]) : wp (F__law_pick [some (dst s), some row]) Q := by
  have hl2 : gLen [row] = some (.int n) := by unfold gLen; dsimp only; rw [hl]; rfl
  have h0 := hn.1
  have h1 := hn.2
  unfold F__law_pick
  apply w_fn rfl
  show wp (g__law_pick [some (dst s), some row]) _
  unfold g__law_pick
  walk_at "go"
  obtain ⟨x, e, i, p⟩ := hx v hv0 hv1
  refine ⟨_, v_ix e i, ?_⟩
  walk_at "go"
  exact h _ _ p
theorem pick_str {s : DSt} {z : Str} {Q : D → DEnv → Prop} (hz : 0 < z.length ∧ z.length ≤ 100000) (h : ∀ c s', c ∈ z.cps.toList → Q (.str ⟨#[c]⟩) [some (dst s'), some (.str z)]) : wp (F__law_pick [some (dst s), some (.str z)]) Q := by
  refine pick_w (n := z.length) (by simp [lenD]; omega) (by omega) (fun x => ∃ c, c ∈ z.cps.toList ∧ x = .str ⟨#[c]⟩) (fun v h0 h1 => ?_) fun x s' ⟨c, hc, e⟩ => by subst e; exact h c s' hc
  obtain ⟨c, hc, e⟩ := at_toNat (xs := z.cps.toList) h0 (by simpa [Str.length] using h1)
  exact ⟨_, ix_strD (by omega) e, imm_str, c, hc, rfl⟩
theorem pick_words {s : DSt} {xs : List Str} {Q : D → DEnv → Prop} (hz : 0 < xs.length ∧ xs.length ≤ 100000) (h : ∀ w s', w ∈ xs → Q (.str w) [some (dst s'), some (.list (xs.map .str))]) : wp (F__law_pick [some (dst s), some (.list (xs.map .str))]) Q := by
  refine pick_w (n := xs.length) (by simp [lenD]) (by omega) (fun x => ∃ c, c ∈ xs ∧ x = .str c) (fun v h0 h1 => ?_) fun x s' ⟨c, hc, e⟩ => by subst e; exact h c s' hc
  obtain ⟨n, rfl⟩ := Int.eq_ofNat_of_zero_le h0
  have hj : n < xs.length := by omega
  exact ⟨.str xs[n], ix_list (atI_nat (by rw [List.getElem?_map, List.getElem?_eq_getElem hj]; rfl)), imm_str, _, List.getElem_mem hj, rfl⟩
theorem small_w {Q : D → DEnv → Prop} (h : Q (.str "abcdefghijklmnopqrstuvwxyz") []) : wp (F__law_small []) Q := by
  unfold F__law_small
  apply w_fn rfl
  show wp (g__law_small []) _
  unfold g__law_small
  walk_at "go"
  exact h
theorem odd_w {Q : D → DEnv → Prop} (h : Q (.str "ABCDEFGHIJKLMNOPQRSTUVWXYZ !\"#$&'()*+,-./:;<=>?\x40[\\]^_`{|}~\n\t") []) : wp (F__law_odd_signs []) Q := by
  unfold F__law_odd_signs
  apply w_fn rfl
  show wp (g__law_odd_signs []) _
  unfold g__law_odd_signs
  walk_at "go"
  exact h
end K01
namespace K01
open PySem PySem.Spec PyProof.Rows L2 DL
local macro_rules | `(tactic| walk_at "w1") => `(tactic| first
  | ((with_reducible apply w_sl); exact rfl) | ((with_reducible apply w_mv); exact rfl) | ((with_reducible apply w_augI); exact rfl) | ((with_reducible apply w_setI); exact rfl) | ((with_reducible apply w_app); exact rfl) 
  | with_reducible first
  | apply w_seq | apply w_cont | apply w_contR | apply w_nx | apply w_contC | apply w_contB | apply w_if | apply w_ret | apply w_retN | apply w_asg | apply w_drop
  | apply w_asgT | apply w_args_nil | apply w_args | apply w_V | apply w_c | apply w_imm | apply w_bl | apply w_tr
  | apply w_not | apply w_and | apply w_or | apply w_ofB | apply w_ifE | apply w_call | apply w_items | apply w_rng
  | apply w_map0 | apply w_map1 | apply w_map2 | apply w_map3 | apply w_map4 | apply w_map5 | apply w_map6 | apply w_for | apply w_intC | apply w_ok)
local macro_rules | `(tactic| walk_at "side") => `(tactic| first | assumption | omega | with_reducible rfl | rfl | decide | (simp only [decide_eq_true_eq, decide_eq_false_iff_not, List.length_map]; omega))
local macro_rules | `(tactic| walk_at "num") => `(tactic| first | omega | (refine ⟨by omega, by omega⟩) | (show CDiv _ _; exact ⟨by omega, by omega⟩) | (show CMul _ _; first | exact .inl ⟨by omega, by omega⟩ | exact .inr ⟨by omega, by omega⟩) | (show CPow _ _; exact ⟨by decide, by decide, by decide⟩))
local macro_rules | `(tactic| walk_at "val") => `(tactic| first
  | assumption
  | ((with_reducible apply DL.v_mul); walk_at "num") | ((with_reducible apply DL.v_fdiv); walk_at "num") | ((with_reducible apply DL.v_mod); omega) | ((with_reducible apply DL.v_adds); walk_at "num") | ((with_reducible apply DL.v_len_str); walk_at "side") | (with_reducible exact DL.v_len_list) | ((with_reducible apply DL.v_rng1); omega)
  | ((with_reducible apply DL.v_lst); decide) | ((with_reducible apply DL.v_list_l); assumption) | ((with_reducible apply DL.v_addl) <;> walk_at "side") | walk_at "val2" | exact rfl)
local macro_rules | `(tactic| walk_at "val2") => `(tactic| fail)
local macro_rules | `(tactic| walk_at "ex") => `(tactic| first | refine ⟨_, by walk_at "val", ?_⟩ | refine ⟨rfl, ?_⟩)
local macro_rules | `(tactic| walk_at "br") => `(tactic| first | (with_reducible refine w_iteT (by walk_at "side") ?_) | (with_reducible refine w_iteF (by walk_at "side") ?_) | ((with_reducible apply w_iteD) <;> intro))
local macro_rules | `(tactic| walk_at "go") => `(tactic| repeat' (first | walk_at "w1" | exact rfl | walk_at "more" | walk_at "br" | walk_at "ex" | fail))
local macro_rules | `(tactic| walk_at "more") => `(tactic| fail)
def lowS : Str := "abcdefghijklmnopqrstuvwxyz"
def figS : Str := "0123456789"
def fineS : Str := lowS ++ figS
def oddS : Str := "ABCDEFGHIJKLMNOPQRSTUVWXYZ !\"#$&'()*+,-./:;<=>?\x40[\\]^_`{|}~\n\t"
def words : List Str := ["any", "then", "addr", "data", "ctrl", "seen", "own", "over", "past", "start"]
theorem low_len : lowS.length = 26 := rfl
theorem fig_len : figS.length = 10 := rfl
theorem fine_len : fineS.length = 36 := rfl
theorem odd_len : oddS.length = 60 := rfl
theorem word_len {w : Str} (h : w ∈ words) : 0 < w.length ∧ w.length ≤ 5 := by
  have : ∀ w ∈ words, 0 < w.length ∧ w.length ≤ 5 := by decide
  exact this w h
local macro_rules | `(tactic| walk_at "num") => `(tactic| first | omega | (simp only [len_add, len1, low_len, fig_len, fine_len, odd_len] at *; omega))
set_option hygiene false in
local macro_rules | `(tactic| walk_at "more") => `(tactic| first
  | (with_reducible refine small_w ?_)
  | (with_reducible refine odd_w ?_)
  | (with_reducible refine pick_str ?_ ?_; walk_at "num"; intro c s' hc)
  | (with_reducible refine draw_w ?_ ?_; walk_at "num"; intro v s' hv0 hv1))
theorem fine_w {Q : D → DEnv → Prop} (h : Q (.str fineS) []) : wp (F__law_fine_signs []) Q := by
  unfold F__law_fine_signs
  apply w_fn rfl
  show wp (g__law_fine_signs []) _
  unfold g__law_fine_signs
  walk_at "go"
  exact h
theorem reserved_w {Q : D → DEnv → Prop} (h : Q (.list (words.map .str)) []) : wp (F__law_reserved []) Q := by
  unfold F__law_reserved
  apply w_fn rfl
  show wp (g__law_reserved []) _
  unfold g__law_reserved
  walk_at "go"
  exact h
theorem signs_w {s : DSt} {n : Int} {z : Str} {Q : D → DEnv → Prop} (hn : (-1000 ≤ n ∧ n ≤ 1000) ∧ 0 < z.length ∧ z.length ≤ 100000) (h : ∀ (y : Str) (s' : DSt), y.length = n.toNat → Q (.str y) [some (dst s'), some (.int n), some (.str z)]) : wp (F__law_signs [some (dst s), some (.int n), some (.str z)]) Q := by
  unfold F__law_signs
  apply w_fn rfl
  show wp (g__law_signs [some (dst s), some (.int n), some (.str z), none, none]) _
  unfold g__law_signs
  walk_at "go"
  refine w_loop (fun i δ => ∃ (y : Str) (s' : DSt) (o : Option D), y.length = i ∧ δ = [some (dst s'), some (.int n), some (.str z), some (.str y), o]) ⟨"", s, none, rfl, rfl⟩ (fun i d δ hd ⟨y, s', o, hy, e⟩ => ?_) (fun δ' ⟨y, s', o, hy, e⟩ => ?_)
  · subst e
    obtain ⟨hi, rfl⟩ := rangeD_get hd
    refine ⟨_, rfl, ?_⟩
    walk_at "go"
    exact ⟨_, _, _, by rw [len_add, hy, len1], rfl⟩
  · subst e
    rw [rangeD_len] at hy
    walk_at "go"
    exact h y s' hy
end K01
namespace K01
open PySem PySem.Spec PyProof.Rows L2 DL
theorem small_w2 {Q : D → DEnv → Prop} (h : Q (.str lowS) []) : wp (F__law_small []) Q := small_w h
theorem fig_len2 : Str.length "0123456789" = 10 := rfl
theorem ex_sl01 {z : Str} {j : Int} {R : D → Prop} (h : z.length ≤ 1000000) (k : ∀ w : Str, w.length ≤ z.length → R (.str w)) : ∃ d, gSl01 [.str z, .int j] = some d ∧ R d := ⟨_, if_pos h, k _ (cutS_length _ _ _)⟩
theorem ex_sl10 {z : Str} {j : Int} {R : D → Prop} (h : z.length ≤ 1000000) (k : ∀ w : Str, w.length ≤ z.length → R (.str w)) : ∃ d, gSl10 [.str z, .int j] = some d ∧ R d := ⟨_, if_pos h, k _ (cutS_length _ _ _)⟩
theorem ex_upper {z : Str} {R : D → Prop} (h : z.length ≤ 1000000) (k : ∀ w : Str, w.length ≤ 3 * z.length → R (.str w)) : ∃ d, gUpper [.str z] = some d ∧ R d := ⟨_, if_pos h, k _ (len_upper z)⟩
local macro_rules | `(tactic| walk_at "w1") => `(tactic| first
  | ((with_reducible apply w_sl); exact rfl) | ((with_reducible apply w_mv); exact rfl) | ((with_reducible apply w_augI); exact rfl) | ((with_reducible apply w_setI); exact rfl) | ((with_reducible apply w_app); exact rfl) 
  | with_reducible first
  | apply w_seq | apply w_cont | apply w_contR | apply w_nx | apply w_contC | apply w_contB | apply w_if | apply w_ret | apply w_retN | apply w_asg | apply w_drop
  | apply w_asgT | apply w_args_nil | apply w_args | apply w_V | apply w_c | apply w_imm | apply w_bl | apply w_tr
  | apply w_not | apply w_and | apply w_or | apply w_ofB | apply w_ifE | apply w_call | apply w_items | apply w_rng
  | apply w_map0 | apply w_map1 | apply w_map2 | apply w_map3 | apply w_map4 | apply w_map5 | apply w_map6 | apply w_for | apply w_intC | apply w_ok)
local macro_rules | `(tactic| walk_at "side") => `(tactic| first | assumption | omega | with_reducible rfl | rfl | decide | (simp only [decide_eq_true_eq, decide_eq_false_iff_not, List.length_map]; omega))
local macro_rules | `(tactic| walk_at "num") => `(tactic| first | omega | (refine ⟨by omega, by omega⟩) | (show CDiv _ _; exact ⟨by omega, by omega⟩) | (show CMul _ _; first | exact .inl ⟨by omega, by omega⟩ | exact .inr ⟨by omega, by omega⟩) | (show CPow _ _; exact ⟨by decide, by decide, by decide⟩))
local macro_rules | `(tactic| walk_at "val") => `(tactic| first
  | assumption
  | ((with_reducible apply DL.v_mul); walk_at "num") | ((with_reducible apply DL.v_fdiv); walk_at "num") | ((with_reducible apply DL.v_mod); omega) | ((with_reducible apply DL.v_adds); walk_at "num") | ((with_reducible apply DL.v_len_str); walk_at "side") | (with_reducible exact DL.v_len_list) | ((with_reducible apply DL.v_rng1); omega)
  | ((with_reducible apply DL.v_lst); decide) | ((with_reducible apply DL.v_list_l); assumption) | ((with_reducible apply DL.v_addl) <;> walk_at "side") | walk_at "val2" | exact rfl)
local macro_rules | `(tactic| walk_at "val2") => `(tactic| fail)
local macro_rules | `(tactic| walk_at "ex") => `(tactic| first | refine ⟨_, by walk_at "val", ?_⟩ | refine ⟨rfl, ?_⟩)
local macro_rules | `(tactic| walk_at "br") => `(tactic| first | (with_reducible refine w_iteT (by walk_at "side") ?_) | (with_reducible refine w_iteF (by walk_at "side") ?_) | ((with_reducible apply w_iteD) <;> intro))
local macro_rules | `(tactic| walk_at "go") => `(tactic| repeat' (first | walk_at "w1" | exact rfl | walk_at "more" | walk_at "br" | walk_at "ex" | fail))
local macro_rules | `(tactic| walk_at "more") => `(tactic| fail)
local macro_rules | `(tactic| walk_at "num") => `(tactic| first | omega | (simp only [len_add, len1, low_len, fig_len, fig_len2, fine_len, odd_len]; omega) | decide)
theorem ex_upperW {z : Str} {R : D → Prop} (h : z ∈ words) (k : ∀ w : Str, 0 < w.length ∧ w.length ≤ 3 * z.length → R (.str w)) : ∃ d, gUpper [.str z] = some d ∧ R d := by
  have hl := word_len h
  refine ⟨_, if_pos (by omega), k _ ⟨?_, len_upper z⟩⟩
  have : ∀ w ∈ words, 0 < (Txt.upper w).length := by decide +kernel
  exact this z h
set_option hygiene false in
local macro_rules | `(tactic| walk_at "more") => `(tactic| first
  | (with_reducible refine ex_sl01 (by walk_at "num") ?_; intro w hw)
  | (with_reducible refine ex_sl10 (by walk_at "num") ?_; intro w hw)
  | (with_reducible refine ex_upper (by walk_at "num") ?_; intro w hw)
  | (with_reducible refine small_w2 ?_)
  | (with_reducible refine odd_w ?_)
  | (with_reducible refine fine_w ?_)
  | (with_reducible refine reserved_w ?_)
  | (with_reducible refine pick_str ?_ ?_; walk_at "num"; intro c s' hc)
  | (with_reducible refine pick_words ?_ ?_; decide; (intro wd s' hwd; have hwl := word_len hwd))
  | (with_reducible refine signs_w ?_ ?_; walk_at "nums"; intro y s' hy)
  | (with_reducible refine draw_w ?_ ?_; walk_at "num"; intro v s' hv0 hv1))
local macro_rules | `(tactic| walk_at "nums") => `(tactic| exact ⟨⟨by omega, by omega⟩, by walk_at "num"⟩)
theorem right_w {s : DSt} {n : Int} {Q : D → DEnv → Prop} (hn : -900 ≤ n ∧ n ≤ 900) (h : ∀ (y : Str) (s' : DSt), 0 < y.length ∧ (y.length : Int) ≤ 1 + (n - 1).toNat → Q (.str y) [some (dst s'), some (.int n)]) : wp (F__law_right [some (dst s), some (.int n)]) Q := by
  unfold F__law_right
  apply w_fn rfl
  show wp (g__law_right [some (dst s), some (.int n)]) _
  unfold g__law_right
  walk_at "go"
  exact h _ _ (by rw [len_add, hy, len1]; omega)
theorem put_in_w {s : DSt} {z y : Str} {Q : D → DEnv → Prop} (hn : z.length ≤ 900 ∧ 0 < y.length ∧ y.length ≤ 100000) (h : ∀ (x : Str) (s' : DSt), x.length ≤ 2 * z.length + 1 → Q (.str x) [some (dst s'), some (.str z), some (.str y)]) : wp (F__law_put_in [some (dst s), some (.str z), some (.str y)]) Q := by
  unfold F__law_put_in
  apply w_fn rfl
  show wp (g__law_put_in [some (dst s), some (.str z), some (.str y), none]) _
  unfold g__law_put_in
  walk_at "go"
  exact h _ _ (by simp only [len_add, len1]; omega)
theorem exchanged_w {s : DSt} {z y : Str} {Q : D → DEnv → Prop} (hn : 0 < z.length ∧ z.length ≤ 900 ∧ 0 < y.length ∧ y.length ≤ 100000) (h : ∀ (x : Str) (s' : DSt), x.length ≤ 2 * z.length + 1 → Q (.str x) [some (dst s'), some (.str z), some (.str y)]) : wp (F__law_exchanged [some (dst s), some (.str z), some (.str y)]) Q := by
  unfold F__law_exchanged
  apply w_fn rfl
  show wp (g__law_exchanged [some (dst s), some (.str z), some (.str y), none]) _
  unfold g__law_exchanged
  walk_at "go"
  exact h _ _ (by simp only [len_add, len1]; omega)
end K01
namespace K01
open PySem PySem.Spec PyProof.Rows L2 DL
local macro_rules | `(tactic| walk_at "w1") => `(tactic| first
  | ((with_reducible apply w_sl); exact rfl) | ((with_reducible apply w_mv); exact rfl) | ((with_reducible apply w_augI); exact rfl) | ((with_reducible apply w_setI); exact rfl) | ((with_reducible apply w_app); exact rfl) 
  | with_reducible first
  | apply w_seq | apply w_cont | apply w_contR | apply w_nx | apply w_contC | apply w_contB | apply w_if | apply w_ret | apply w_retN | apply w_asg | apply w_drop
  | apply w_asgT | apply w_args_nil | apply w_args | apply w_V | apply w_c | apply w_imm | apply w_bl | apply w_tr
  | apply w_not | apply w_and | apply w_or | apply w_ofB | apply w_ifE | apply w_call | apply w_items | apply w_rng
  | apply w_map0 | apply w_map1 | apply w_map2 | apply w_map3 | apply w_map4 | apply w_map5 | apply w_map6 | apply w_for | apply w_intC | apply w_ok)
local macro_rules | `(tactic| walk_at "side") => `(tactic| first | assumption | omega | with_reducible rfl | rfl | decide | (simp only [decide_eq_true_eq, decide_eq_false_iff_not, List.length_map]; omega))
local macro_rules | `(tactic| walk_at "num") => `(tactic| first | omega | (refine ⟨by omega, by omega⟩) | (show CDiv _ _; exact ⟨by omega, by omega⟩) | (show CMul _ _; first | exact .inl ⟨by omega, by omega⟩ | exact .inr ⟨by omega, by omega⟩) | (show CPow _ _; exact ⟨by decide, by decide, by decide⟩))
local macro_rules | `(tactic| walk_at "val") => `(tactic| first
  | assumption
  | ((with_reducible apply DL.v_mul); walk_at "num") | ((with_reducible apply DL.v_fdiv); walk_at "num") | ((with_reducible apply DL.v_mod); omega) | ((with_reducible apply DL.v_adds); walk_at "num") | ((with_reducible apply DL.v_len_str); walk_at "side") | (with_reducible exact DL.v_len_list) | ((with_reducible apply DL.v_rng1); omega)
  | ((with_reducible apply DL.v_lst); decide) | ((with_reducible apply DL.v_list_l); assumption) | ((with_reducible apply DL.v_addl) <;> walk_at "side") | walk_at "val2" | exact rfl)
local macro_rules | `(tactic| walk_at "val2") => `(tactic| fail)
local macro_rules | `(tactic| walk_at "ex") => `(tactic| first | refine ⟨_, by walk_at "val", ?_⟩ | refine ⟨rfl, ?_⟩)
local macro_rules | `(tactic| walk_at "br") => `(tactic| first | (with_reducible refine w_iteT (by walk_at "side") ?_) | (with_reducible refine w_iteF (by walk_at "side") ?_) | ((with_reducible apply w_iteD) <;> intro))
local macro_rules | `(tactic| walk_at "go") => `(tactic| repeat' (first | walk_at "w1" | exact rfl | walk_at "more" | walk_at "br" | walk_at "ex" | fail))
local macro_rules | `(tactic| walk_at "more") => `(tactic| fail)
local macro_rules | `(tactic| walk_at "num") => `(tactic| first | omega | (simp only [len_add, len1, low_len, fig_len, fig_len2, fine_len, odd_len]; omega) | decide)
set_option hygiene false in
local macro_rules | `(tactic| walk_at "more") => `(tactic| first
  | (with_reducible refine ex_sl01 (by walk_at "num") ?_; intro w hw)
  | (with_reducible refine ex_sl10 (by walk_at "num") ?_; intro w hw)
  | (with_reducible refine ex_upperW (by assumption) ?_; intro w hw)
  | (with_reducible refine small_w2 ?_)
  | (with_reducible refine odd_w ?_)
  | (with_reducible refine fine_w ?_)
  | (with_reducible refine reserved_w ?_)
  | (with_reducible refine pick_str ?_ ?_; walk_at "num"; intro c s' hc)
  | (with_reducible refine pick_words ?_ ?_; decide; (intro wd s' hwd; have hwl := word_len hwd))
  | (with_reducible refine signs_w ?_ ?_; walk_at "nums"; intro y s' hy)
  | (with_reducible refine right_w ?_ ?_; walk_at "num"; intro y s' hy)
  | (with_reducible refine put_in_w ?_ ?_; walk_at "num3"; intro y s' hy)
  | (with_reducible refine exchanged_w ?_ ?_; walk_at "num3"; intro y s' hy)
  | (with_reducible refine draw_w ?_ ?_; walk_at "num"; intro v s' hv0 hv1))
local macro_rules | `(tactic| walk_at "nums") => `(tactic| exact ⟨⟨by omega, by omega⟩, by walk_at "num"⟩)
local macro_rules | `(tactic| walk_at "num3") => `(tactic| first | exact ⟨by walk_at "num", by walk_at "num", by walk_at "num"⟩ | exact ⟨by walk_at "num", by walk_at "num", by walk_at "num", by walk_at "num"⟩)
theorem near_w {s : DSt} {Q : D → DEnv → Prop} (h : ∀ (x : Str) (s' : DSt), x.length ≤ 1000 → Q (.str x) [some (dst s')]) : wp (F__law_near_reserved [some (dst s)]) Q := by
  unfold F__law_near_reserved
  apply w_fn rfl
  show wp (g__law_near_reserved [some (dst s), none, none, none]) _
  unfold g__law_near_reserved
  walk_at "go"
  all_goals exact h _ _ (by walk_at "num")
set_option hygiene false in
local macro_rules | `(tactic| walk_at "more") => `(tactic| first
  | (with_reducible refine ex_sl01 (by walk_at "num") ?_; intro w hw)
  | (with_reducible refine ex_sl10 (by walk_at "num") ?_; intro w hw)
  | (with_reducible refine ex_upperW (by assumption) ?_; intro w hw)
  | (with_reducible refine small_w2 ?_)
  | (with_reducible refine odd_w ?_)
  | (with_reducible refine fine_w ?_)
  | (with_reducible refine reserved_w ?_)
  | (with_reducible refine pick_str ?_ ?_; walk_at "num"; intro c s' hc)
  | (with_reducible refine pick_words ?_ ?_; decide; (intro wd s' hwd; have hwl := word_len hwd))
  | (with_reducible refine signs_w ?_ ?_; walk_at "nums"; intro y s' hy)
  | (with_reducible refine right_w ?_ ?_; walk_at "num"; intro y s' hy)
  | (with_reducible refine put_in_w ?_ ?_; walk_at "num3"; intro y s' hy)
  | (with_reducible refine exchanged_w ?_ ?_; walk_at "num3"; intro y s' hy)
  | (with_reducible refine near_w ?_; intro y s' hy)
  | (with_reducible refine draw_w ?_ ?_; walk_at "num"; intro v s' hv0 hv1))
local macro_rules | `(tactic| walk_at "nums") => `(tactic| exact ⟨⟨by omega, by omega⟩, by walk_at "num"⟩)
local macro_rules | `(tactic| walk_at "num3") => `(tactic| first | exact ⟨by walk_at "num", by walk_at "num", by walk_at "num"⟩ | exact ⟨by walk_at "num", by walk_at "num", by walk_at "num", by walk_at "num"⟩)
theorem string_w {s : DSt} {Q : D → DEnv → Prop} (h : ∀ (x : Str) (s' : DSt), x.length ≤ 1000 → Q (.str x) [some (dst s')]) : wp (F__law_string [some (dst s)]) Q := by
  unfold F__law_string
  apply w_fn rfl
  show wp (g__law_string [some (dst s), none]) _
  unfold g__law_string
  walk_at "go"
  all_goals exact h _ _ (by walk_at "num")
end K01
namespace K01
open PySem PySem.Spec PyProof.Rows L2 DL
local macro_rules | `(tactic| walk_at "w1") => `(tactic| first
  | ((with_reducible apply w_sl); exact rfl) | ((with_reducible apply w_mv); exact rfl) | ((with_reducible apply w_augI); exact rfl) | ((with_reducible apply w_setI); exact rfl) | ((with_reducible apply w_app); exact rfl) 
  | with_reducible first
  | apply w_seq | apply w_cont | apply w_contR | apply w_nx | apply w_contC | apply w_contB | apply w_if | apply w_ret | apply w_retN | apply w_asg | apply w_drop
  | apply w_asgT | apply w_args_nil | apply w_args | apply w_V | apply w_c | apply w_imm | apply w_bl | apply w_tr
  | apply w_not | apply w_and | apply w_or | apply w_ofB | apply w_ifE | apply w_call | apply w_items | apply w_rng
  | apply w_map0 | apply w_map1 | apply w_map2 | apply w_map3 | apply w_map4 | apply w_map5 | apply w_map6 | apply w_for | apply w_yes | apply p_iteT | apply p_iteF | apply w_intC | apply w_ok)
local macro_rules | `(tactic| walk_at "side") => `(tactic| first | assumption | omega | with_reducible rfl | rfl | decide | (simp only [decide_eq_true_eq, decide_eq_false_iff_not, List.length_map]; omega))
local macro_rules | `(tactic| walk_at "num") => `(tactic| first | omega | (refine ⟨by omega, by omega⟩) | (show CDiv _ _; exact ⟨by omega, by omega⟩) | (show CMul _ _; first | exact .inl ⟨by omega, by omega⟩ | exact .inr ⟨by omega, by omega⟩) | (show CPow _ _; exact ⟨by decide, by decide, by decide⟩))
local macro_rules | `(tactic| walk_at "val") => `(tactic| first
  | assumption
  | ((with_reducible apply DL.v_mul); walk_at "num") | ((with_reducible apply DL.v_fdiv); walk_at "num") | ((with_reducible apply DL.v_mod); omega) | ((with_reducible apply DL.v_adds); walk_at "num") | ((with_reducible apply DL.v_len_str); walk_at "side") | (with_reducible exact DL.v_len_list) | ((with_reducible apply DL.v_rng1); omega)
  | ((with_reducible apply DL.v_lst); decide) | ((with_reducible apply DL.v_list_l); assumption) | ((with_reducible apply DL.v_addl) <;> walk_at "side") | walk_at "val2" | exact rfl)
local macro_rules | `(tactic| walk_at "val2") => `(tactic| fail)
local macro_rules | `(tactic| walk_at "ex") => `(tactic| first | refine ⟨_, by walk_at "val", ?_⟩ | refine ⟨rfl, ?_⟩)
local macro_rules | `(tactic| walk_at "br") => `(tactic| first | (with_reducible refine w_iteT (by walk_at "side") ?_) | (with_reducible refine w_iteF (by walk_at "side") ?_) | ((with_reducible apply w_iteD) <;> intro) | ((with_reducible apply w_ite) <;> intro))
local macro_rules | `(tactic| walk_at "go") => `(tactic| repeat' (first | walk_at "w1" | exact rfl | walk_at "more" | walk_at "br" | walk_at "ex" | fail))
local macro_rules | `(tactic| walk_at "more") => `(tactic| fail)
local macro_rules | `(tactic| walk_at "num") => `(tactic| first | omega | (simp only [len_add, len1, low_len, fig_len, fig_len2, fine_len, odd_len]; omega) | decide)
set_option hygiene false in
local macro_rules | `(tactic| walk_at "more") => `(tactic| first
  | (with_reducible refine ex_sl01 (by walk_at "num") ?_; intro w hw)
  | (with_reducible refine ex_sl10 (by walk_at "num") ?_; intro w hw)
  | (with_reducible refine ex_upperW (by assumption) ?_; intro w hw)
  | (with_reducible refine near_w ?_; intro y s' hy)
  | (with_reducible refine string_w ?_; intro y s' hy)
  | (with_reducible refine small_w2 ?_)
  | (with_reducible refine odd_w ?_)
  | (with_reducible refine fine_w ?_)
  | (with_reducible refine reserved_w ?_)
  | (with_reducible refine pick_str ?_ ?_; walk_at "num"; intro c s' hc)
  | (with_reducible refine pick_words ?_ ?_; decide; (intro wd s' hwd; have hwl := word_len hwd))
  | (with_reducible refine signs_w ?_ ?_; walk_at "nums"; intro y s' hy)
  | (with_reducible refine right_w ?_ ?_; walk_at "num"; intro y s' hy)
  | (with_reducible refine put_in_w ?_ ?_; walk_at "num3"; intro y s' hy)
  | (with_reducible refine exchanged_w ?_ ?_; walk_at "num3"; intro y s' hy)
  | (with_reducible refine draw_w ?_ ?_; walk_at "num"; intro v s' hv0 hv1))
local macro_rules | `(tactic| walk_at "nums") => `(tactic| exact ⟨⟨by omega, by omega⟩, by walk_at "num"⟩)
local macro_rules | `(tactic| walk_at "num3") => `(tactic| first | exact ⟨by walk_at "num", by walk_at "num", by walk_at "num"⟩ | exact ⟨by walk_at "num", by walk_at "num", by walk_at "num", by walk_at "num"⟩)
def inW (z : Str) : Bool := words.any fun w => PyData.eqv (.str w) (.str z)
def isNm (z : Str) : Bool := match z.cps.toList with
  | [] => false
  | c :: r => decide (z.length ≤ 8) && !inW z && decide (c ∈ lowS.cps.toList) && (c :: r).all fun c => decide (c ∈ fineS.cps.toList)
theorem in_words (z : Str) : inD (.str z) (.list (words.map .str)) = some (inW z) := rfl
theorem any_words (z : Str) : ((List.map PyData.str words).any fun z_1 => z_1.eqv (PyData.str z)) = inW z := by
  unfold inW
  rw [List.any_map]
  rfl
theorem len_list (z : Str) : z.length = z.cps.toList.length := by simp [Str.length]
theorem nm_short {z : Str} (h : (z.length : Int) < 1) : isNm z = false := by
  have hl := len_list z
  unfold isNm
  cases hc : z.cps.toList with
  | nil => rfl
  | cons c r => rw [hc, List.length_cons] at hl; omega
theorem nm_long {z : Str} (h : 8 < (z.length : Int)) : isNm z = false := by
  unfold isNm
  cases hc : z.cps.toList with
  | nil => rfl
  | cons c r => dsimp only; rw [decide_eq_false (by omega)]; rfl
theorem nm_word {z : Str} (h : ((List.map PyData.str words).any fun z_1 => z_1.eqv (PyData.str z)) = true) : isNm z = false := by
  rw [any_words] at h
  unfold isNm
  cases hc : z.cps.toList with
  | nil => rfl
  | cons c r => dsimp only; rw [h]; simp
theorem nm_first {z : Str} {c : Nat} {r : List Nat} (hc : z.cps.toList = c :: r) (h : (!decide (c ∈ lowS.cps.toList)) = true) : isNm z = false := by
  unfold isNm
  rw [hc]
  dsimp only
  have : decide (c ∈ lowS.cps.toList) = false := by revert h; cases decide (c ∈ lowS.cps.toList) <;> simp
  rw [this]; simp
theorem nm_all {z : Str} {c : Nat} {r : List Nat} (hc : z.cps.toList = c :: r) (h1 : ¬ 8 < (z.length : Int)) (h2 : ((List.map PyData.str words).any fun z_1 => z_1.eqv (PyData.str z)) = false) (h3 : (!decide (c ∈ lowS.cps.toList)) = false) : isNm z = z.cps.toList.all fun c => decide (c ∈ fineS.cps.toList) := by
  rw [any_words] at h2
  unfold isNm
  rw [hc]
  dsimp only
  have : decide (c ∈ lowS.cps.toList) = true := by revert h3; cases decide (c ∈ lowS.cps.toList) <;> simp
  rw [this, h2, decide_eq_true (by omega)]; simp
theorem boolsD_map (f : Nat → Bool) : ∀ l : List Nat, boolsD (l.map fun c => PyData.bool (f c)) = some (l.map f)
  | [] => rfl
  | c :: r => by
    show (boolsD (r.map fun c => PyData.bool (f c))).map (f c :: ·) = _
    rw [boolsD_map f r]; rfl
theorem gAll_map (f : Nat → Bool) (l : List Nat) : gAll [.list (l.map fun c => PyData.bool (f c))] = some (.bool (l.all f)) := by
  unfold gAll
  dsimp only
  rw [boolsD_map]
  show some (PyData.bool _) = _
  rw [List.all_map]; rfl
theorem map_get {α β : Type} {f : α → β} {l : List α} {i : Nat} {d : β} (h : (l.map f)[i]? = some d) : ∃ c, l[i]? = some c ∧ d = f c := by
  rw [List.getElem?_map] at h
  cases e : l[i]? with
  | none => rw [e] at h; cases h
  | some c => rw [e] at h; cases h; exact ⟨c, rfl, rfl⟩
theorem is_named_w {z : Str} {Q : D → DEnv → Prop} (hz : z.length ≤ 9000) (h : Q (.bool (isNm z)) [some (.str z)]) : wp (F__law_is_named [some (.str z)]) Q := by
  unfold F__law_is_named
  apply w_fn rfl
  show wp (g__law_is_named [some (.str z), none]) _
  unfold g__law_is_named
  walk_at "go"
  · rename_i a; rw [nm_short a] at h; exact h
  · rename_i a; rw [nm_long a] at h; exact h
  · rename_i a; rw [nm_word a] at h; exact h
  rename_i a1 a2 a3
  cases hc : z.cps.toList with
  | nil =>
    have hl := len_list z
    rw [hc, List.length_nil] at hl
    omega
  | cons c r =>
    refine ⟨.str ⟨#[c]⟩, v_ix (ix_strD (by omega) (by rw [hc]; exact atI_nat (j := 0) rfl)) imm_str, ?_⟩
    walk_at "go"
    · rename_i a; rw [nm_first hc a] at h; exact h
    rename_i a4
    rw [nm_all hc a2 a3 a4] at h
    apply w_comp
    walk_at "go"
    refine ⟨by rw [List.length_map, ← len_list]; omega, fun i δ acc => ∃ o, acc = (z.cps.toList.take i).map (fun c => PyData.bool (decide (c ∈ fineS.cps.toList))) ∧ δ = [some (.str z), o], ⟨none, rfl, rfl⟩, ?_, ?_⟩
    · rintro i d δ acc hd ⟨o, rfl, rfl⟩
      obtain ⟨x, hx, rfl⟩ := map_get hd
      refine ⟨_, rfl, ?_⟩
      walk_at "go"
      refine ⟨_, ?_, rfl⟩
      rw [List.take_add_one, hx, List.map_append]
      rfl
    · rintro δ' ys ⟨o, rfl, rfl⟩
      rw [List.length_map, List.take_length]
      walk_at "w1"
      refine ⟨_, rfl, _, gAll_map _ _, ?_⟩
      walk_at "go"
      exact h
end K01
namespace K01
open PySem PySem.Spec PyProof.Rows L2 DL
local macro_rules | `(tactic| walk_at "w1") => `(tactic| first
  | ((with_reducible apply w_sl); exact rfl) | ((with_reducible apply w_mv); exact rfl) | ((with_reducible apply w_augI); exact rfl) | ((with_reducible apply w_setI); exact rfl) | ((with_reducible apply w_app); exact rfl) 
  | with_reducible first
  | apply w_seq | apply w_cont | apply w_contR | apply w_nx | apply w_contC | apply w_contB | apply w_if | apply w_ret | apply w_retN | apply w_asg | apply w_drop
  | apply w_asgT | apply w_args_nil | apply w_args | apply w_V | apply w_c | apply w_imm | apply w_bl | apply w_tr
  | apply w_not | apply w_and | apply w_or | apply w_ofB | apply w_ifE | apply w_call | apply w_items | apply w_rng
  | apply w_map0 | apply w_map1 | apply w_map2 | apply w_map3 | apply w_map4 | apply w_map5 | apply w_map6 | apply w_for | apply w_yes | apply p_iteT | apply p_iteF | apply w_intC | apply w_ok)
local macro_rules | `(tactic| walk_at "side") => `(tactic| first | assumption | omega | with_reducible rfl | rfl | decide | (simp only [decide_eq_true_eq, decide_eq_false_iff_not, List.length_map]; omega))
local macro_rules | `(tactic| walk_at "num") => `(tactic| first | omega | (refine ⟨by omega, by omega⟩) | (show CDiv _ _; exact ⟨by omega, by omega⟩) | (show CMul _ _; first | exact .inl ⟨by omega, by omega⟩ | exact .inr ⟨by omega, by omega⟩) | (show CPow _ _; exact ⟨by decide, by decide, by decide⟩))
local macro_rules | `(tactic| walk_at "val") => `(tactic| first
  | assumption
  | ((with_reducible apply DL.v_mul); walk_at "num") | ((with_reducible apply DL.v_fdiv); walk_at "num") | ((with_reducible apply DL.v_mod); omega) | ((with_reducible apply DL.v_adds); walk_at "num") | ((with_reducible apply DL.v_len_str); walk_at "side") | (with_reducible exact DL.v_len_list) | ((with_reducible apply DL.v_rng1); omega)
  | ((with_reducible apply DL.v_lst); decide) | ((with_reducible apply DL.v_list_l); assumption) | ((with_reducible apply DL.v_addl) <;> walk_at "side") | walk_at "val2" | exact rfl)
local macro_rules | `(tactic| walk_at "val2") => `(tactic| fail)
local macro_rules | `(tactic| walk_at "ex") => `(tactic| first | refine ⟨_, by walk_at "val", ?_⟩ | refine ⟨rfl, ?_⟩)
local macro_rules | `(tactic| walk_at "br") => `(tactic| first | (with_reducible refine w_iteT (by walk_at "side") ?_) | (with_reducible refine w_iteF (by walk_at "side") ?_) | ((with_reducible apply w_iteD) <;> intro) | ((with_reducible apply w_ite) <;> intro))
local macro_rules | `(tactic| walk_at "go") => `(tactic| repeat' (first | walk_at "w1" | exact rfl | walk_at "more" | walk_at "br" | walk_at "ex" | fail))
local macro_rules | `(tactic| walk_at "more") => `(tactic| fail)
local macro_rules | `(tactic| walk_at "num") => `(tactic| first | omega | (simp only [len_add, len1, low_len, fig_len, fig_len2, fine_len, odd_len]; omega) | decide)
set_option hygiene false in
local macro_rules | `(tactic| walk_at "more") => `(tactic| first
  | (with_reducible refine ex_sl01 (by walk_at "num") ?_; intro w hw)
  | (with_reducible refine ex_sl10 (by walk_at "num") ?_; intro w hw)
  | (with_reducible refine ex_upperW (by assumption) ?_; intro w hw)
  | (with_reducible refine near_w ?_; intro y s' hy)
  | (with_reducible refine string_w ?_; intro y s' hy)
  | (with_reducible refine is_named_w ?_ ?_; walk_at "num")
  | (with_reducible refine small_w2 ?_)
  | (with_reducible refine odd_w ?_)
  | (with_reducible refine fine_w ?_)
  | (with_reducible refine reserved_w ?_)
  | (with_reducible refine pick_str ?_ ?_; walk_at "num"; intro c s' hc)
  | (with_reducible refine pick_words ?_ ?_; decide; (intro wd s' hwd; have hwl := word_len hwd))
  | (with_reducible refine signs_w ?_ ?_; walk_at "nums"; intro y s' hy)
  | (with_reducible refine right_w ?_ ?_; walk_at "num"; intro y s' hy)
  | (with_reducible refine put_in_w ?_ ?_; walk_at "num3"; intro y s' hy)
  | (with_reducible refine exchanged_w ?_ ?_; walk_at "num3"; intro y s' hy)
  | (with_reducible refine draw_w ?_ ?_; walk_at "num"; intro v s' hv0 hv1))
local macro_rules | `(tactic| walk_at "nums") => `(tactic| exact ⟨⟨by omega, by omega⟩, by walk_at "num"⟩)
local macro_rules | `(tactic| walk_at "num3") => `(tactic| first | exact ⟨by walk_at "num", by walk_at "num", by walk_at "num"⟩ | exact ⟨by walk_at "num", by walk_at "num", by walk_at "num", by walk_at "num"⟩)
theorem notb {b : Bool} (h : (!b) = false) : b = true := by cases b <;> simp_all
theorem any_res (z : Str) : (([.str "any", .str "start", .str "then", .str "addr", .str "data", .str "ctrl", .str "seen", .str "own", .str "over", .str "past"] : List D).any fun z_1 => z_1.eqv (PyData.str z)) = inW z := by
  unfold inW words
  simp only [List.any_cons, List.any_nil, Bool.or_false]
  ac_rfl
theorem in_res (z : Str) : inD (.str z) d_RESERVED = some (inW z) := by
  rw [← any_res]; rfl
theorem nm_bad {z : Str} {i c : Nat} (h : z.cps.toList[i]? = some c) (h1 : (!decide (c ∈ lowS.cps.toList)) = true) (h2 : (!decide (c ∈ figS.cps.toList)) = true) : isNm z = false := by
  have hn : decide (c ∈ fineS.cps.toList) = false := by
    have e : fineS.cps.toList = lowS.cps.toList ++ figS.cps.toList := rfl
    rw [e]
    have a1 : c ∉ lowS.cps.toList := by intro m; rw [decide_eq_true m] at h1; cases h1
    have a2 : c ∉ figS.cps.toList := by intro m; rw [decide_eq_true m] at h2; cases h2
    exact decide_eq_false (by rw [List.mem_append]; rintro (m | m) <;> contradiction)
  have ha : (z.cps.toList.all fun c => decide (c ∈ fineS.cps.toList)) = false := by
    rw [List.all_eq_false]
    exact ⟨c, List.mem_of_getElem? h, by rw [hn]; decide⟩
  unfold isNm
  cases hc : z.cps.toList with
  | nil => rfl
  | cons c r => dsimp only; rw [← hc, ha, Bool.and_false]
theorem nm_good {z : Str} {c : Nat} {r : List Nat} (hc : z.cps.toList = c :: r) (h1 : ¬ 8 < (z.length : Int)) (h3 : (!decide (c ∈ lowS.cps.toList)) = false) (ha : ∀ c ∈ z.cps.toList, c ∈ lowS.cps.toList ∨ c ∈ figS.cps.toList) : isNm z = !inW z := by
  have ha : (z.cps.toList.all fun c => decide (c ∈ fineS.cps.toList)) = true := by
    rw [List.all_eq_true]
    intro c m
    have e : fineS.cps.toList = lowS.cps.toList ++ figS.cps.toList := rfl
    rw [e]
    exact decide_eq_true (List.mem_append.mpr (ha c m))
  unfold isNm
  rw [hc] at ha ⊢
  dsimp only
  have : decide (c ∈ lowS.cps.toList) = true := by revert h3; cases decide (c ∈ lowS.cps.toList) <;> simp
  rw [ha, this, decide_eq_true (by omega)]; simp
theorem is_name_w {z : Str} {Q : D → DEnv → Prop} (hz : z.length ≤ 9000) (h : Q (.bool (isNm z)) [some (.str z)]) : wp (F_is_name [some (.str z)]) Q := by
  unfold F_is_name
  apply w_fn rfl
  show wp (g_is_name [some (.str z), none]) _
  unfold g_is_name d_LOWER d_FIGURES d_LONGEST
  walk_at "go"
  · rename_i a; rw [nm_short a] at h; exact h
  · rename_i a; rw [nm_long a] at h; exact h
  rename_i a1 a2
  cases hc : z.cps.toList with
  | nil =>
    have hl := len_list z
    rw [hc, List.length_nil] at hl
    omega
  | cons c r =>
    refine ⟨.str ⟨#[c]⟩, v_ix (ix_strD (by omega) (by rw [hc]; exact atI_nat (j := 0) rfl)) imm_str, ?_⟩
    walk_at "go"
    · rename_i a; rw [nm_first hc a] at h; exact h
    rename_i a4
    refine w_loop (fun i δ => ∃ o, δ = [some (.str z), o] ∧ ∀ j c, j < i → z.cps.toList[j]? = some c → c ∈ lowS.cps.toList ∨ c ∈ figS.cps.toList) ⟨none, rfl, fun j c hj => by omega⟩ ?_ ?_
    · rintro i d δ hd ⟨o, rfl, ho⟩
      obtain ⟨x, hx, rfl⟩ := map_get hd
      refine ⟨_, rfl, ?_⟩
      walk_at "go"
      · rename_i b1 b2
        rw [nm_bad hx b1 b2] at h
        exact h
      · rename_i b1 b2
        have hm : x ∈ figS.cps.toList := of_decide_eq_true (notb b2)
        intro j c hj hc'
        rcases Nat.lt_succ_iff_lt_or_eq.mp hj with hj | hj
        · exact ho j c hj hc'
        · subst hj; rw [hx] at hc'; cases hc'; exact .inr hm
      · rename_i b1
        have hm : x ∈ lowS.cps.toList := of_decide_eq_true (notb b1)
        intro j c hj hc'
        rcases Nat.lt_succ_iff_lt_or_eq.mp hj with hj | hj
        · exact ho j c hj hc'
        · subst hj; rw [hx] at hc'; cases hc'; exact .inl hm
    · rintro δ' ⟨o, rfl, ho⟩
      rw [List.length_map] at ho
      rw [nm_good hc a2 a4 fun c m => by obtain ⟨j, hj⟩ := List.mem_iff_getElem?.mp m; exact ho j c (List.getElem?_eq_some_iff.mp hj).1 hj] at h
      walk_at "go"
      rw [← any_res] at h
      exact h
end K01
namespace K01
open PySem PySem.Spec PyProof.Rows L2 DL
abbrev sL (xs : List Str) : D := .list (xs.map .str)
theorem words_len : words.length = 10 := rfl
theorem imms_strs : ∀ xs : List Str, imms (xs.map PyData.str) = true
  | [] => rfl
  | x :: r => by
    show (imm (PyData.str x) && imms (r.map PyData.str)) = true
    rw [imm_str, imms_strs r]; rfl
theorem ex_lst1 {a : Str} {R : D → Prop} (k : R (sL [a])) : ∃ d, gLst [.str a] = some d ∧ R d := ⟨_, rfl, k⟩
theorem ex_lst3 {a b c : Str} {R : D → Prop} (k : R (sL [a, b, c])) : ∃ d, gLst [.str a, .str b, .str c] = some d ∧ R d := ⟨_, rfl, k⟩
theorem ex_lst4 {a b c e : Str} {R : D → Prop} (k : R (sL [a, b, c, e])) : ∃ d, gLst [.str a, .str b, .str c, .str e] = some d ∧ R d := ⟨_, rfl, k⟩
theorem ex_adds {xs ys : List Str} {R : D → Prop} (h : xs.length + ys.length ≤ 1000000) (k : R (sL (xs ++ ys))) : ∃ d, gAdd [sL xs, sL ys] = some d ∧ R d :=
  ⟨_, DL.v_addl (imms_strs xs) (imms_strs ys) (by rw [List.length_map, List.length_map]; exact h), by rw [← List.map_append]; exact k⟩
theorem ex_rev {xs : List Str} {R : D → Prop} (k : R (sL xs.reverse)) : ∃ d, gListRev [sL xs] = some d ∧ R d :=
  ⟨_, if_pos (imms_strs xs), by rw [← List.map_reverse]; exact k⟩
theorem it_strs (xs : List Str) : itemsD (sL xs) = some (xs.map .str) := if_pos (imms_strs xs)
theorem reserved_w2 {Q : D → DEnv → Prop} (h : Q (sL words) []) : wp (F__law_reserved []) Q := reserved_w h
local macro_rules | `(tactic| walk_at "w1") => `(tactic| first
  | ((with_reducible apply w_sl); exact rfl) | ((with_reducible apply w_mv); exact rfl) | ((with_reducible apply w_augI); exact rfl) | ((with_reducible apply w_setI); exact rfl) | ((with_reducible apply w_app); exact rfl) 
  | with_reducible first
  | apply w_seq | apply w_cont | apply w_contR | apply w_nx | apply w_contC | apply w_contB | apply w_if | apply w_ret | apply w_retN | apply w_asg | apply w_drop
  | apply w_asgT | apply w_args_nil | apply w_args | apply w_V | apply w_c | apply w_imm | apply w_bl | apply w_tr
  | apply w_not | apply w_and | apply w_or | apply w_ofB | apply w_ifE | apply w_call | apply w_items | apply w_rng
  | apply w_map0 | apply w_map1 | apply w_map2 | apply w_map3 | apply w_map4 | apply w_map5 | apply w_map6 | apply w_for | apply w_yes | apply p_iteT | apply p_iteF | apply w_intC | apply w_ok)
local macro_rules | `(tactic| walk_at "side") => `(tactic| first | assumption | omega | with_reducible rfl | rfl | decide | (simp only [decide_eq_true_eq, decide_eq_false_iff_not, List.length_map]; omega))
local macro_rules | `(tactic| walk_at "num") => `(tactic| first | omega | (refine ⟨by omega, by omega⟩) | (show CDiv _ _; exact ⟨by omega, by omega⟩) | (show CMul _ _; first | exact .inl ⟨by omega, by omega⟩ | exact .inr ⟨by omega, by omega⟩) | (show CPow _ _; exact ⟨by decide, by decide, by decide⟩))
local macro_rules | `(tactic| walk_at "val") => `(tactic| first
  | assumption
  | ((with_reducible apply DL.v_mul); walk_at "num") | ((with_reducible apply DL.v_fdiv); walk_at "num") | ((with_reducible apply DL.v_mod); omega) | ((with_reducible apply DL.v_adds); walk_at "num") | ((with_reducible apply DL.v_len_str); walk_at "side") | (with_reducible exact DL.v_len_list) | ((with_reducible apply DL.v_rng1); omega)
  | ((with_reducible apply DL.v_lst); decide) | ((with_reducible apply DL.v_list_l); assumption) | ((with_reducible apply DL.v_addl) <;> walk_at "side") | walk_at "val2" | exact rfl)
local macro_rules | `(tactic| walk_at "val2") => `(tactic| fail)
local macro_rules | `(tactic| walk_at "ex") => `(tactic| first | refine ⟨_, by walk_at "val", ?_⟩ | refine ⟨rfl, ?_⟩)
local macro_rules | `(tactic| walk_at "br") => `(tactic| first | (with_reducible refine w_iteT (by walk_at "side") ?_) | (with_reducible refine w_iteF (by walk_at "side") ?_) | ((with_reducible apply w_iteD) <;> intro) | ((with_reducible apply w_ite) <;> intro))
local macro_rules | `(tactic| walk_at "go") => `(tactic| repeat' (first | walk_at "w1" | exact rfl | walk_at "more" | walk_at "br" | walk_at "ex" | fail))
local macro_rules | `(tactic| walk_at "more") => `(tactic| fail)
local macro_rules | `(tactic| walk_at "num") => `(tactic| first | omega | (simp only [len_add, len1, low_len, fig_len, fig_len2, fine_len, odd_len, words_len, List.length_append, List.length_cons, List.length_nil, List.length_map, List.length_reverse]; omega) | decide)
set_option hygiene false in
local macro_rules | `(tactic| walk_at "more") => `(tactic| first
  | (with_reducible refine ex_sl01 (by walk_at "num") ?_; intro w hw)
  | (with_reducible refine ex_sl10 (by walk_at "num") ?_; intro w hw)
  | (with_reducible refine ex_upperW (by assumption) ?_; intro w hw)
  | (with_reducible refine near_w ?_; intro y s' hy)
  | (with_reducible refine string_w ?_; intro y s' hy)
  | (with_reducible refine is_name_w ?_ ?_; walk_at "num")
  | (with_reducible refine is_named_w ?_ ?_; walk_at "num")
  | (with_reducible refine ex_lst1 ?_)
  | (with_reducible refine ex_lst3 ?_)
  | (with_reducible refine ex_lst4 ?_)
  | (with_reducible refine ex_adds ?_ ?_; walk_at "num")
  | (with_reducible refine ex_rev ?_)
  | (with_reducible refine small_w2 ?_)
  | (with_reducible refine odd_w ?_)
  | (with_reducible refine fine_w ?_)
  | (with_reducible refine reserved_w2 ?_)
  | (with_reducible refine pick_str ?_ ?_; walk_at "num"; intro c s' hc)
  | (with_reducible refine pick_words ?_ ?_; decide; (intro wd s' hwd; have hwl := word_len hwd))
  | (with_reducible refine signs_w ?_ ?_; walk_at "nums"; intro y s' hy)
  | (with_reducible refine right_w ?_ ?_; walk_at "num"; intro y s' hy)
  | (with_reducible refine put_in_w ?_ ?_; walk_at "num3"; intro y s' hy)
  | (with_reducible refine exchanged_w ?_ ?_; walk_at "num3"; intro y s' hy)
  | (with_reducible refine draw_w ?_ ?_; walk_at "num"; intro v s' hv0 hv1))
local macro_rules | `(tactic| walk_at "nums") => `(tactic| exact ⟨⟨by omega, by omega⟩, by walk_at "num"⟩)
local macro_rules | `(tactic| walk_at "num3") => `(tactic| first | exact ⟨by walk_at "num", by walk_at "num", by walk_at "num"⟩ | exact ⟨by walk_at "num", by walk_at "num", by walk_at "num", by walk_at "num"⟩)
theorem law_w (s : DSt) : wp (g_law (none :: some (dst s) :: List.replicate 7 none)) fun fl _ => fl = .rt (.bool true) := by
  show wp (g_law [none, some (dst s), none, none, none, none, none, none, none]) _
  unfold g_law
  repeat walk_at "w1"
  apply w_comp
  walk_at "go"
  refine ⟨by rw [rangeD_len]; decide, fun i δ acc => ∃ (s : DSt) (xs : List Str) (o : Option D), acc = xs.map .str ∧ xs.length = i ∧ (∀ x ∈ xs, x.length ≤ 2000) ∧ δ = [none, some (dst s), none, none, none, none, none, none, o], ⟨s, [], none, rfl, rfl, (fun x m => nomatch m), rfl⟩, ?_, ?_⟩
  · rintro i d δ acc hd ⟨s, xs, o, rfl, hl, hx, rfl⟩
    refine ⟨_, rfl, ?_⟩
    walk_at "go"
    refine ⟨_, xs ++ [y], _, by rw [List.map_append]; rfl, by rw [List.length_append, hl]; rfl, fun x m => ?_, rfl⟩
    rcases List.mem_append.mp m with m | m
    · exact hx x m
    · rw [List.mem_singleton.mp m]; omega
  rintro δ' ys ⟨s, xs, o, rfl, hl, hx, rfl⟩
  rw [rangeD_len] at hl
  have hl : xs.length = 14 := hl
  show wp (cArgs _ [none, some (dst s), none, none, none, none, none, none, none]) _
  walk_at "go"
  rename_i ya _ ha yb _ hb va _ hva0 hva1 yc _ hc _
  refine w_loop (fun i δ => ∃ (ts : List Str) (o : Option D), δ = [none, some (dst s'), some (sL ts), some (.str yc), some (.str y), o, none, none, none] ∧ ts.length = 27 + 4 * i ∧ ∀ x ∈ ts, x.length ≤ 2000) ⟨(xs ++ [ya, yb, ""]) ++ words, none, rfl, ?_, fun x m => ?_⟩ ?_ ?_
  · rw [List.length_append, List.length_append, hl]; rfl
  · rcases List.mem_append.mp m with m | m
    · rcases List.mem_append.mp m with m | m
      · exact hx x m
      · simp only [List.mem_cons, List.not_mem_nil, or_false] at m
        rcases m with rfl | rfl | rfl
        · omega
        · omega
        · decide
    · have := word_len m; omega
  · rintro i d δ hd ⟨ts, o, rfl, ht, hts⟩
    obtain ⟨c, hc', rfl⟩ := map_get hd
    have hi : i < 96 := by
      have := (List.getElem?_eq_some_iff.mp hd).1
      rw [List.length_map, ← len_list, len_add, fine_len] at this
      exact this
    refine ⟨_, rfl, ?_⟩
    walk_at "go"
    refine ⟨_, _, rfl, by rw [List.length_append, ht]; show 27 + 4 * i + 4 = _; omega, fun x m => ?_⟩
    rcases List.mem_append.mp m with m | m
    · exact hts x m
    · simp only [List.mem_cons, List.not_mem_nil, or_false] at m
      rcases m with rfl | rfl | rfl | rfl <;> simp only [len_add, len1] <;> omega
  · rintro δ' ⟨ts, o5, rfl, ht, hts⟩
    rw [List.length_map, ← len_list, len_add, fine_len] at ht
    have ht : ts.length = 27 + 4 * 96 := ht
    walk_at "go"
    refine ⟨_, it_strs _, ?_⟩
    refine w_loop (fun i δ => ∃ (o o7 : Option D), δ = [none, some (dst s'), some (sL ts), some (.str yc), some (.str y), o5, o, o7, none]) ⟨none, none, rfl⟩ ?_ ?_
    · rintro i d δ hd ⟨o, o7, rfl⟩
      obtain ⟨x, hx', rfl⟩ := map_get hd
      have hxl : x.length ≤ 2000 := by
        rcases List.mem_append.mp (List.mem_of_getElem? hx') with m | m
        · exact hts x m
        · exact hts x (List.mem_reverse.mp m)
      refine ⟨_, rfl, ?_⟩
      walk_at "go"
      · rename_i a
        rw [decide_eq_true rfl] at a
        cases a
      · exact ⟨_, _, rfl⟩
    · rintro δ' ⟨o, o7, rfl⟩
      walk_at "go"
theorem law_ok : ∀ ns : List Int, ns.length ≤ 63 → wp (g_law (none :: some (dst ⟨ns, 0, 0, 7⟩) :: List.replicate 7 none)) fun fl _ => fl = .rt (.bool true) := fun ns _ => law_w _
end K01
namespace K01
open PySem PySem.Spec PyProof.Rows L2 DL
theorem all_mk {l : PySem.W.OpenLaw} {w : World} {K : PySem.W.Frag} {h : Heap} {mg : Str → Option Value} {fa : Addr} (X : K.In h) (G : h.Ns mainGlobals mg) (hfa : mg "law" = some (.ref fa))
    {f0 : Addr} {od0 an0 : Option Addr} {fs0 : Array (Option Value)} {oc0 kV0 dc0 pm0 cd0 ct0 : Value}
    {f1 : Addr} {od1 an1 : Option Addr} {fs1 : Array (Option Value)} {oc1 kV1 dc1 pm1 cd1 ct1 : Value}
    {f2 : Addr} {od2 an2 : Option Addr} {fs2 : Array (Option Value)} {oc2 kV2 dc2 pm2 cd2 ct2 : Value}
    {f3 : Addr} {od3 an3 : Option Addr} {fs3 : Array (Option Value)} {oc3 kV3 dc3 pm3 cd3 ct3 : Value}
    {f4 : Addr} {od4 an4 : Option Addr} {fs4 : Array (Option Value)} {oc4 kV4 dc4 pm4 cd4 ct4 : Value}
    {f5 : Addr} {od5 an5 : Option Addr} {fs5 : Array (Option Value)} {oc5 kV5 dc5 pm5 cd5 ct5 : Value}
    {f6 : Addr} {od6 an6 : Option Addr} {fs6 : Array (Option Value)} {oc6 kV6 dc6 pm6 cd6 ct6 : Value}
    {f7 : Addr} {od7 an7 : Option Addr} {fs7 : Array (Option Value)} {oc7 kV7 dc7 pm7 cd7 ct7 : Value}
    {f8 : Addr} {od8 an8 : Option Addr} {fs8 : Array (Option Value)} {oc8 kV8 dc8 pm8 cd8 ct8 : Value}
    {f9 : Addr} {od9 an9 : Option Addr} {fs9 : Array (Option Value)} {oc9 kV9 dc9 pm9 cd9 ct9 : Value}
    {f10 : Addr} {od10 an10 : Option Addr} {fs10 : Array (Option Value)} {oc10 kV10 dc10 pm10 cd10 ct10 : Value}
    {f11 : Addr} {od11 an11 : Option Addr} {fs11 : Array (Option Value)} {oc11 kV11 dc11 pm11 cd11 ct11 : Value}
    {f12 : Addr} {od12 an12 : Option Addr} {fs12 : Array (Option Value)} {oc12 kV12 dc12 pm12 cd12 ct12 : Value}
    {f13 : Addr} {od13 an13 : Option Addr} {fs13 : Array (Option Value)} {oc13 kV13 dc13 pm13 cd13 ct13 : Value}
    {f14 : Addr} {od14 an14 : Option Addr} {fs14 : Array (Option Value)} {oc14 kV14 dc14 pm14 cd14 ct14 : Value}
    {f15 : Addr} {od15 an15 : Option Addr} {fs15 : Array (Option Value)} {oc15 kV15 dc15 pm15 cd15 ct15 : Value}
    {t1 : Nat}
    {t2 : Nat}
    {t3 : Nat}
    {r4 : Addr} {its4 : Array Value} {n4 : Nat} {sl4 : Array (Option Value)}
    (a0 : PySem.W.nsIn K mainGlobals "is_name" = some (some (.ref f0))) (l0 : K.lookup f0 = some ⟨oc0, od0, .func (PySem.W.fnOf "is_name" "is_name" (defArgs s_is_name) (defBody s_is_name) (defScope s_is_name) .none kV0 dc0 pm0 an0 cd0 ct0), fs0⟩) (c0 : PySem.W.codeIn K cd0 "is_name" = true) (k0 : PySem.W.keepIn K (.ref f0) = true)
    (a1 : PySem.W.nsIn K mainGlobals "_law_begin" = some (some (.ref f1))) (l1 : K.lookup f1 = some ⟨oc1, od1, .func (PySem.W.fnOf "_law_begin" "_law_begin" (defArgs s__law_begin) (defBody s__law_begin) (defScope s__law_begin) .none kV1 dc1 pm1 an1 cd1 ct1), fs1⟩) (c1 : PySem.W.codeIn K cd1 "_law_begin" = true) (k1 : PySem.W.keepIn K (.ref f1) = true)
    (a2 : PySem.W.nsIn K mainGlobals "_law_draw" = some (some (.ref f2))) (l2 : K.lookup f2 = some ⟨oc2, od2, .func (PySem.W.fnOf "_law_draw" "_law_draw" (defArgs s__law_draw) (defBody s__law_draw) (defScope s__law_draw) .none kV2 dc2 pm2 an2 cd2 ct2), fs2⟩) (c2 : PySem.W.codeIn K cd2 "_law_draw" = true) (k2 : PySem.W.keepIn K (.ref f2) = true)
    (a3 : PySem.W.nsIn K mainGlobals "_law_pick" = some (some (.ref f3))) (l3 : K.lookup f3 = some ⟨oc3, od3, .func (PySem.W.fnOf "_law_pick" "_law_pick" (defArgs s__law_pick) (defBody s__law_pick) (defScope s__law_pick) .none kV3 dc3 pm3 an3 cd3 ct3), fs3⟩) (c3 : PySem.W.codeIn K cd3 "_law_pick" = true) (k3 : PySem.W.keepIn K (.ref f3) = true)
    (a4 : PySem.W.nsIn K mainGlobals "_law_small" = some (some (.ref f4))) (l4 : K.lookup f4 = some ⟨oc4, od4, .func (PySem.W.fnOf "_law_small" "_law_small" (defArgs s__law_small) (defBody s__law_small) (defScope s__law_small) .none kV4 dc4 pm4 an4 cd4 ct4), fs4⟩) (c4 : PySem.W.codeIn K cd4 "_law_small" = true) (k4 : PySem.W.keepIn K (.ref f4) = true)
    (a5 : PySem.W.nsIn K mainGlobals "_law_fine_signs" = some (some (.ref f5))) (l5 : K.lookup f5 = some ⟨oc5, od5, .func (PySem.W.fnOf "_law_fine_signs" "_law_fine_signs" (defArgs s__law_fine_signs) (defBody s__law_fine_signs) (defScope s__law_fine_signs) .none kV5 dc5 pm5 an5 cd5 ct5), fs5⟩) (c5 : PySem.W.codeIn K cd5 "_law_fine_signs" = true) (k5 : PySem.W.keepIn K (.ref f5) = true)
    (a6 : PySem.W.nsIn K mainGlobals "_law_odd_signs" = some (some (.ref f6))) (l6 : K.lookup f6 = some ⟨oc6, od6, .func (PySem.W.fnOf "_law_odd_signs" "_law_odd_signs" (defArgs s__law_odd_signs) (defBody s__law_odd_signs) (defScope s__law_odd_signs) .none kV6 dc6 pm6 an6 cd6 ct6), fs6⟩) (c6 : PySem.W.codeIn K cd6 "_law_odd_signs" = true) (k6 : PySem.W.keepIn K (.ref f6) = true)
    (a7 : PySem.W.nsIn K mainGlobals "_law_reserved" = some (some (.ref f7))) (l7 : K.lookup f7 = some ⟨oc7, od7, .func (PySem.W.fnOf "_law_reserved" "_law_reserved" (defArgs s__law_reserved) (defBody s__law_reserved) (defScope s__law_reserved) .none kV7 dc7 pm7 an7 cd7 ct7), fs7⟩) (c7 : PySem.W.codeIn K cd7 "_law_reserved" = true) (k7 : PySem.W.keepIn K (.ref f7) = true)
    (a8 : PySem.W.nsIn K mainGlobals "_law_is_named" = some (some (.ref f8))) (l8 : K.lookup f8 = some ⟨oc8, od8, .func (PySem.W.fnOf "_law_is_named" "_law_is_named" (defArgs s__law_is_named) (defBody s__law_is_named) (defScope s__law_is_named) .none kV8 dc8 pm8 an8 cd8 ct8), fs8⟩) (c8 : PySem.W.codeIn K cd8 "_law_is_named" = true) (k8 : PySem.W.keepIn K (.ref f8) = true)
    (a9 : PySem.W.nsIn K mainGlobals "_law_signs" = some (some (.ref f9))) (l9 : K.lookup f9 = some ⟨oc9, od9, .func (PySem.W.fnOf "_law_signs" "_law_signs" (defArgs s__law_signs) (defBody s__law_signs) (defScope s__law_signs) .none kV9 dc9 pm9 an9 cd9 ct9), fs9⟩) (c9 : PySem.W.codeIn K cd9 "_law_signs" = true) (k9 : PySem.W.keepIn K (.ref f9) = true)
    (a10 : PySem.W.nsIn K mainGlobals "_law_right" = some (some (.ref f10))) (l10 : K.lookup f10 = some ⟨oc10, od10, .func (PySem.W.fnOf "_law_right" "_law_right" (defArgs s__law_right) (defBody s__law_right) (defScope s__law_right) .none kV10 dc10 pm10 an10 cd10 ct10), fs10⟩) (c10 : PySem.W.codeIn K cd10 "_law_right" = true) (k10 : PySem.W.keepIn K (.ref f10) = true)
    (a11 : PySem.W.nsIn K mainGlobals "_law_put_in" = some (some (.ref f11))) (l11 : K.lookup f11 = some ⟨oc11, od11, .func (PySem.W.fnOf "_law_put_in" "_law_put_in" (defArgs s__law_put_in) (defBody s__law_put_in) (defScope s__law_put_in) .none kV11 dc11 pm11 an11 cd11 ct11), fs11⟩) (c11 : PySem.W.codeIn K cd11 "_law_put_in" = true) (k11 : PySem.W.keepIn K (.ref f11) = true)
    (a12 : PySem.W.nsIn K mainGlobals "_law_exchanged" = some (some (.ref f12))) (l12 : K.lookup f12 = some ⟨oc12, od12, .func (PySem.W.fnOf "_law_exchanged" "_law_exchanged" (defArgs s__law_exchanged) (defBody s__law_exchanged) (defScope s__law_exchanged) .none kV12 dc12 pm12 an12 cd12 ct12), fs12⟩) (c12 : PySem.W.codeIn K cd12 "_law_exchanged" = true) (k12 : PySem.W.keepIn K (.ref f12) = true)
    (a13 : PySem.W.nsIn K mainGlobals "_law_near_reserved" = some (some (.ref f13))) (l13 : K.lookup f13 = some ⟨oc13, od13, .func (PySem.W.fnOf "_law_near_reserved" "_law_near_reserved" (defArgs s__law_near_reserved) (defBody s__law_near_reserved) (defScope s__law_near_reserved) .none kV13 dc13 pm13 an13 cd13 ct13), fs13⟩) (c13 : PySem.W.codeIn K cd13 "_law_near_reserved" = true) (k13 : PySem.W.keepIn K (.ref f13) = true)
    (a14 : PySem.W.nsIn K mainGlobals "_law_string" = some (some (.ref f14))) (l14 : K.lookup f14 = some ⟨oc14, od14, .func (PySem.W.fnOf "_law_string" "_law_string" (defArgs s__law_string) (defBody s__law_string) (defScope s__law_string) .none kV14 dc14 pm14 an14 cd14 ct14), fs14⟩) (c14 : PySem.W.codeIn K cd14 "_law_string" = true) (k14 : PySem.W.keepIn K (.ref f14) = true)
    (a15 : PySem.W.nsIn K mainGlobals "law" = some (some (.ref f15))) (l15 : K.lookup f15 = some ⟨oc15, od15, .func (PySem.W.fnOf "law" "law" (defArgs s_law) (defBody s_law) (defScope s_law) .none kV15 dc15 pm15 an15 cd15 ct15), fs15⟩) (c15 : PySem.W.codeIn K cd15 "law" = true) (k15 : PySem.W.keepIn K (.ref f15) = true)
    (y_len : PySem.W.nsIn K mainGlobals "len" = some none)
    (y_int : PySem.W.nsIn K mainGlobals "int" = some none)
    (y_abs : PySem.W.nsIn K mainGlobals "abs" = some none)
    (y_all : PySem.W.nsIn K mainGlobals "all" = some none)
    (y_range : PySem.W.nsIn K mainGlobals "range" = some none)
    (y_list : PySem.W.nsIn K mainGlobals "list" = some none)
    (y_reversed : PySem.W.nsIn K mainGlobals "reversed" = some none)
    (y_isinstance : PySem.W.nsIn K mainGlobals "isinstance" = some none)
    (y_bool : PySem.W.nsIn K mainGlobals "bool" = some none)
    (g_LONGEST : PySem.W.nsIn K mainGlobals "LONGEST" = some (some (.int (8) t1)))
    (g_LOWER : PySem.W.nsIn K mainGlobals "LOWER" = some (some (.str "abcdefghijklmnopqrstuvwxyz" t2)))
    (g_FIGURES : PySem.W.nsIn K mainGlobals "FIGURES" = some (some (.str "0123456789" t3)))
    (g_RESERVED : PySem.W.nsIn K mainGlobals "RESERVED" = some (some (.ref r4)))
    (lr4 : K.lookup r4 = some ⟨.type "tuple", none, .seq its4 n4, sl4⟩)
    (zr4 : its4.size ≤ sizeLine)
    (vr4 : Vals [(.str "any"), (.str "start"), (.str "then"), (.str "addr"), (.str "data"), (.str "ctrl"), (.str "seen"), (.str "own"), (.str "over"), (.str "past")] its4.toList)
    : ∃ fd : FuncData, (∀ (s : Shared) (v : Value), BindsTo s fd ⟨[v], []⟩ [("script", v)]) ∧ ∀ base : Heap, K.In base → base.Ns mainGlobals mg → FnOk l.prog w K mg base (L2.CX l.prog w) 6 fa fd ["script"] (spLaw K) := by
  have e := hfa.symm.trans (PySem.W.mg_of X G a15)
  cases e
  have F0 := fun_mk (st := s_is_name) l0 c0 k0
  have m0 := PySem.W.mg_of X G a0
  have b0 := F0.binds (ps := ["text"]) fun _ _ _ _ _ _ us hl => match us, hl with | [_], _ => rfl
  have F1 := fun_mk (st := s__law_begin) l1 c1 k1
  have m1 := PySem.W.mg_of X G a1
  have b1 := F1.binds (ps := ["script"]) fun _ _ _ _ _ _ us hl => match us, hl with | [_], _ => rfl
  have F2 := fun_mk (st := s__law_draw) l2 c2 k2
  have m2 := PySem.W.mg_of X G a2
  have b2 := F2.binds (ps := ["d", "many"]) fun _ _ _ _ _ _ us hl => match us, hl with | [_, _], _ => rfl
  have F3 := fun_mk (st := s__law_pick) l3 c3 k3
  have m3 := PySem.W.mg_of X G a3
  have b3 := F3.binds (ps := ["d", "row"]) fun _ _ _ _ _ _ us hl => match us, hl with | [_, _], _ => rfl
  have F4 := fun_mk (st := s__law_small) l4 c4 k4
  have m4 := PySem.W.mg_of X G a4
  have b4 := F4.binds (ps := []) fun _ _ _ _ _ _ us hl => match us, hl with | [], _ => rfl
  have F5 := fun_mk (st := s__law_fine_signs) l5 c5 k5
  have m5 := PySem.W.mg_of X G a5
  have b5 := F5.binds (ps := []) fun _ _ _ _ _ _ us hl => match us, hl with | [], _ => rfl
  have F6 := fun_mk (st := s__law_odd_signs) l6 c6 k6
  have m6 := PySem.W.mg_of X G a6
  have b6 := F6.binds (ps := []) fun _ _ _ _ _ _ us hl => match us, hl with | [], _ => rfl
  have F7 := fun_mk (st := s__law_reserved) l7 c7 k7
  have m7 := PySem.W.mg_of X G a7
  have b7 := F7.binds (ps := []) fun _ _ _ _ _ _ us hl => match us, hl with | [], _ => rfl
  have F8 := fun_mk (st := s__law_is_named) l8 c8 k8
  have m8 := PySem.W.mg_of X G a8
  have b8 := F8.binds (ps := ["text"]) fun _ _ _ _ _ _ us hl => match us, hl with | [_], _ => rfl
  have F9 := fun_mk (st := s__law_signs) l9 c9 k9
  have m9 := PySem.W.mg_of X G a9
  have b9 := F9.binds (ps := ["d", "size", "signs"]) fun _ _ _ _ _ _ us hl => match us, hl with | [_, _, _], _ => rfl
  have F10 := fun_mk (st := s__law_right) l10 c10 k10
  have m10 := PySem.W.mg_of X G a10
  have b10 := F10.binds (ps := ["d", "size"]) fun _ _ _ _ _ _ us hl => match us, hl with | [_, _], _ => rfl
  have F11 := fun_mk (st := s__law_put_in) l11 c11 k11
  have m11 := PySem.W.mg_of X G a11
  have b11 := F11.binds (ps := ["d", "text", "signs"]) fun _ _ _ _ _ _ us hl => match us, hl with | [_, _, _], _ => rfl
  have F12 := fun_mk (st := s__law_exchanged) l12 c12 k12
  have m12 := PySem.W.mg_of X G a12
  have b12 := F12.binds (ps := ["d", "text", "signs"]) fun _ _ _ _ _ _ us hl => match us, hl with | [_, _, _], _ => rfl
  have F13 := fun_mk (st := s__law_near_reserved) l13 c13 k13
  have m13 := PySem.W.mg_of X G a13
  have b13 := F13.binds (ps := ["d"]) fun _ _ _ _ _ _ us hl => match us, hl with | [_], _ => rfl
  have F14 := fun_mk (st := s__law_string) l14 c14 k14
  have m14 := PySem.W.mg_of X G a14
  have b14 := F14.binds (ps := ["d"]) fun _ _ _ _ _ _ us hl => match us, hl with | [_], _ => rfl
  have F15 := fun_mk (st := s_law) l15 c15 k15
  have m15 := PySem.W.mg_of X G a15
  have b15 := F15.binds (ps := ["script"]) fun _ _ _ _ _ _ us hl => match us, hl with | [_], _ => rfl
  have m_len := PySem.W.mg_none_of X G y_len
  have m_int := PySem.W.mg_none_of X G y_int
  have m_abs := PySem.W.mg_none_of X G y_abs
  have m_all := PySem.W.mg_none_of X G y_all
  have m_range := PySem.W.mg_none_of X G y_range
  have m_list := PySem.W.mg_none_of X G y_list
  have m_reversed := PySem.W.mg_none_of X G y_reversed
  have m_isinstance := PySem.W.mg_none_of X G y_isinstance
  have m_bool := PySem.W.mg_none_of X G y_bool
  have l_LONGEST : GlobS mg K "LONGEST" d_LONGEST := ⟨⟨_, (.int (8)), PySem.W.mg_of X G g_LONGEST, ⟨_, rfl⟩, fun _ => .int (8)⟩⟩
  have l_LOWER : GlobS mg K "LOWER" d_LOWER := ⟨⟨_, (.str "abcdefghijklmnopqrstuvwxyz"), PySem.W.mg_of X G g_LOWER, ⟨_, rfl⟩, fun _ => .str "abcdefghijklmnopqrstuvwxyz"⟩⟩
  have l_FIGURES : GlobS mg K "FIGURES" d_FIGURES := ⟨⟨_, (.str "0123456789"), PySem.W.mg_of X G g_FIGURES, ⟨_, rfl⟩, fun _ => .str "0123456789"⟩⟩
  have l_RESERVED : GlobS mg K "RESERVED" d_RESERVED := ⟨⟨_, (.ref r4), PySem.W.mg_of X G g_RESERVED, rfl, fun _ => .tup (.inr ⟨_, _, _, lr4, rfl, rfl, zr4, vr4⟩) (.cons (F := []) (.str "any") (.cons (F := []) (.str "start") (.cons (F := []) (.str "then") (.cons (F := []) (.str "addr") (.cons (F := []) (.str "data") (.cons (F := []) (.str "ctrl") (.cons (F := []) (.str "seen") (.cons (F := []) (.str "own") (.cons (F := []) (.str "over") (.cons (F := []) (.str "past") (.nil)))))))))))⟩⟩
  refine ⟨PySem.W.fnOf "law" "law" (defArgs s_law) (defBody s_law) (defScope s_law) .none kV15 dc15 pm15 an15 cd15 ct15, fun s v => .of_eq rfl, fun base _ _ => ?_⟩
  have I0 := i_is_name (P := l.prog) (w := w) (K := K) (mg := mg) (base := base) (k := 0) m_len l_LONGEST l_LOWER l_FIGURES l_RESERVED (by decide) F0 m0 b0
  have I1 := i__law_begin (P := l.prog) (w := w) (K := K) (mg := mg) (base := base) (k := 0) m_int F1
  have I2 := i__law_draw (P := l.prog) (w := w) (K := K) (mg := mg) (base := base) (k := 0) m_int m_len m_abs (by decide) F2 m2 b2
  have I3 := i__law_pick (P := l.prog) (w := w) (K := K) (mg := mg) (base := base) (k := 1) I2 m_len (by decide) F3 m3 b3
  have I4 := i__law_small (P := l.prog) (w := w) (K := K) (mg := mg) (base := base) (k := 0)  (by decide) F4 m4 b4
  have I5 := i__law_fine_signs (P := l.prog) (w := w) (K := K) (mg := mg) (base := base) (k := 1) I4 (by decide) F5 m5 b5
  have I6 := i__law_odd_signs (P := l.prog) (w := w) (K := K) (mg := mg) (base := base) (k := 0)  (by decide) F6 m6 b6
  have I7 := i__law_reserved (P := l.prog) (w := w) (K := K) (mg := mg) (base := base) (k := 0)  (by decide) F7 m7 b7
  have I8 := i__law_is_named (P := l.prog) (w := w) (K := K) (mg := mg) (base := base) (k := 2) I7 I4 I5 m_len m_all (by decide) F8 m8 b8
  have I9 := i__law_signs (P := l.prog) (w := w) (K := K) (mg := mg) (base := base) (k := 2) I3 m_range (by decide) F9 m9 b9
  have I10 := i__law_right (P := l.prog) (w := w) (K := K) (mg := mg) (base := base) (k := 3) I3 I4 I9 I5 (by decide) F10 m10 b10
  have I11 := i__law_put_in (P := l.prog) (w := w) (K := K) (mg := mg) (base := base) (k := 2) I2 I3 m_len (by decide) F11 m11 b11
  have I12 := i__law_exchanged (P := l.prog) (w := w) (K := K) (mg := mg) (base := base) (k := 2) I2 I3 m_len (by decide) F12 m12 b12
  have I13 := i__law_near_reserved (P := l.prog) (w := w) (K := K) (mg := mg) (base := base) (k := 3) I3 I7 I2 I11 I5 I12 m_len (by decide) F13 m13 b13
  have I14 := i__law_string (P := l.prog) (w := w) (K := K) (mg := mg) (base := base) (k := 4) I2 I10 I11 I6 I12 I3 I9 I5 I13 (by decide) F14 m14 b14
  exact i_law (P := l.prog) (w := w) (K := K) (mg := mg) (base := base) (k := 5) I14 I10 I7 I2 I9 I5 I6 I0 I8 m_range m_list m_reversed m_isinstance m_bool (by decide) F15 I1 m1 k1 b1 law_ok
end K01
open PySem PySem.W PyProof.Rows
set_option maxHeartbeats 0 in
theorem PySem.Challenge.cw_ringsbelow_k01_names_known_holds : PySem.Challenge.rw_ringsbelow_k01_names_known.Holds := by
  w_on; o_law; k_head; (case hw => w_witness2)
  k_fill
  refine L2.walk_of (l := PySem.Challenge.rw_ringsbelow_k01_names_known) (n := 63) (k := 6) (x := "script") (CX := fun w => L2.CX PySem.Challenge.rw_ringsbelow_k01_names_known.prog w) (sp := fun w => DL.spLaw _) rfl (by decide) rfl ⟨rfl, by decide, by decide⟩ (fun w h Y => PySem.W.kIn_of Y) ?F (fun _ _ a ns hl _ hS => ⟨a, ns, rfl, hS, hl, fun _ => rfl⟩) (fun _ _ _ _ _ z => by
    obtain ⟨_, _, _, _, _, _, _, _, _, _, _, _, z⟩ := z
    exact z)
  case F =>
    intro w mg fa h KX G hmg
    refine' K01.all_mk KX G hmg ?a0 ?l0 ?c0 ?k0 ?a1 ?l1 ?c1 ?k1 ?a2 ?l2 ?c2 ?k2 ?a3 ?l3 ?c3 ?k3 ?a4 ?l4 ?c4 ?k4 ?a5 ?l5 ?c5 ?k5 ?a6 ?l6 ?c6 ?k6 ?a7 ?l7 ?c7 ?k7 ?a8 ?l8 ?c8 ?k8 ?a9 ?l9 ?c9 ?k9 ?a10 ?l10 ?c10 ?k10 ?a11 ?l11 ?c11 ?k11 ?a12 ?l12 ?c12 ?k12 ?a13 ?l13 ?c13 ?k13 ?a14 ?l14 ?c14 ?k14 ?a15 ?l15 ?c15 ?k15 ?y_len ?y_int ?y_abs ?y_all ?y_range ?y_list ?y_reversed ?y_isinstance ?y_bool ?g_LONGEST ?g_LOWER ?g_FIGURES ?g_RESERVED ?lr4 ?zr4 ?vr4
    (case a0 => k_is)
    (case l0 => k_is)
    (case c0 => k_is)
    (case k0 => k_is)
    (case a1 => k_is)
    (case l1 => k_is)
    (case c1 => k_is)
    (case k1 => k_is)
    (case a2 => k_is)
    (case l2 => k_is)
    (case c2 => k_is)
    (case k2 => k_is)
    (case a3 => k_is)
    (case l3 => k_is)
    (case c3 => k_is)
    (case k3 => k_is)
    (case a4 => k_is)
    (case l4 => k_is)
    (case c4 => k_is)
    (case k4 => k_is)
    (case a5 => k_is)
    (case l5 => k_is)
    (case c5 => k_is)
    (case k5 => k_is)
    (case a6 => k_is)
    (case l6 => k_is)
    (case c6 => k_is)
    (case k6 => k_is)
    (case a7 => k_is)
    (case l7 => k_is)
    (case c7 => k_is)
    (case k7 => k_is)
    (case a8 => k_is)
    (case l8 => k_is)
    (case c8 => k_is)
    (case k8 => k_is)
    (case a9 => k_is)
    (case l9 => k_is)
    (case c9 => k_is)
    (case k9 => k_is)
    (case a10 => k_is)
    (case l10 => k_is)
    (case c10 => k_is)
    (case k10 => k_is)
    (case a11 => k_is)
    (case l11 => k_is)
    (case c11 => k_is)
    (case k11 => k_is)
    (case a12 => k_is)
    (case l12 => k_is)
    (case c12 => k_is)
    (case k12 => k_is)
    (case a13 => k_is)
    (case l13 => k_is)
    (case c13 => k_is)
    (case k13 => k_is)
    (case a14 => k_is)
    (case l14 => k_is)
    (case c14 => k_is)
    (case k14 => k_is)
    (case a15 => k_is)
    (case l15 => k_is)
    (case c15 => k_is)
    (case k15 => k_is)
    (case y_len => k_is)
    (case y_int => k_is)
    (case y_abs => k_is)
    (case y_all => k_is)
    (case y_range => k_is)
    (case y_list => k_is)
    (case y_reversed => k_is)
    (case y_isinstance => k_is)
    (case y_bool => k_is)
    (case g_LONGEST => k_is)
    (case g_LOWER => k_is)
    (case g_FIGURES => k_is)
    (case g_RESERVED => k_is)
    (case lr4 => k_is)
    (case zr4 => decide +kernel)
    (case vr4 => exact He.relAll_ok (by decide +kernel))
