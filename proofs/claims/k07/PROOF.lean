import PyProof.Rows.All
import Wide.All
import OpenK.AllK
import Wide.FinOn
import HandS.ForMost
import HandS.Exc
import HandS.TryOnly
import HandS.WordsExc
import HandS.Walk
import HandS.IsInst
import HandS.TupAny
import HandS.Deep
import HandS.TupLe
import HandS.Rev
import HandS.RevTup
import KE.GoesEnum
import HandS.Iter
import HandS.Dict
import KE.SortData
import HandS.SetKeys
import PyProof.DictMoreH
import PySem.Challenge.RW_ringsbelow_k07_words_dropped
import HandS.HeadHook2
set_option Elab.async false
set_option linter.all false
set_option maxRecDepth 100000
/-! DL0: data trees with footprints, environments of data, outcomes, the judgements over a family of contexts. -/
namespace DL
open PySem PySem.Spec PyProof.Rows L2
abbrev D := PyData
abbrev DEnv := List (Option D)
abbrev FT := Nat → List Addr
def keyD : Key → D
  | .inl i => .int i
  | .inr s => .str s
def tkeyD (k : List Key) : D := .tuple (k.map keyD)
/-- objects that may change -/
def mutO : HO → Bool
  | .lst _ | .dK _ | .dT _ => true
  | _ => false
mutual
inductive Rep (K : PySem.W.Frag) (H : Hp) : V → D → List Addr → Prop
  | non : Rep K H .non .none []
  | bl (b : Bool) : Rep K H (.bl b) (.bool b) []
  | int (i : Int) : Rep K H (.int i) (.int i) []
  | str (x : Str) : Rep K H (.str x) (.str x) []
  | tup {a : Addr} {vs : List V} {ds : List D} {F : List Addr} : SqT K H a vs → Reps K H vs ds F → Rep K H (.ref a) (.tuple ds) F
  | lst {a : Addr} {vs : List V} {ds : List D} {F : List Addr} : H a = some (.lst vs) → Reps K H vs ds F → Rep K H (.ref a) (.list ds) (a :: F)
  | dK {a : Addr} {ks : List Key} {vs : List V} {ds : List D} {F : List Addr} : H a = some (.dK (ks.zip vs)) → ks.length = vs.length → Reps K H vs ds F → Rep K H (.ref a) (.dict ((ks.map keyD).zip ds)) (a :: F)
  | dT {a : Addr} {ks : List (List Key)} {vs : List V} {ds : List D} {F : List Addr} : H a = some (.dT (ks.zip vs)) → ks.length = vs.length → Reps K H vs ds F → Rep K H (.ref a) (.dict ((.none, .none) :: (ks.map tkeyD).zip ds)) (a :: F)
inductive Reps (K : PySem.W.Frag) (H : Hp) : List V → List D → List Addr → Prop
  | nil : Reps K H [] [] []
  | cons {v : V} {d : D} {F : List Addr} {vs : List V} {ds : List D} {G : List Addr} : Rep K H v d F → Reps K H vs ds G → Reps K H (v :: vs) (d :: ds) (F ++ G)
end
/-- what stays: all but the objects of B that may change -/
def Keep (B : Addr → Prop) (H H' : Hp) : Prop := ∀ a o, H a = some o → (¬ B a ∨ mutO o = false) → H' a = some o
theorem Keep.refl {B : Addr → Prop} {H : Hp} : Keep B H H := fun _ _ h _ => h
theorem Keep.imp {B B' : Addr → Prop} {H H' : Hp} (k : Keep B H H') (h : ∀ a, H a ≠ none → B a → B' a) : Keep B' H H' := fun a o e c => k a o e (c.imp (fun n b => n (h a (by rw [e]; simp) b)) id)
theorem Keep.new {B : Addr → Prop} {H : Hp} {p : Addr} {o : HO} (h : H p = none) : Keep B H (upd H p o) := fun a u e _ => by
  rw [upd_ne (ne_of_none e h)]
  exact e
theorem Keep.upd {B : Addr → Prop} {H : Hp} {p : Addr} {o : HO} (h : B p) (m : ∀ u, H p = some u → mutO u = true) : Keep B H (upd H p o) := fun a u e c => by
  by_cases q : a = p
  · subst q
    rcases c with c | c
    · exact absurd h c
    · rw [m u e] at c; cases c
  · rw [upd_ne q]; exact e
theorem Keep.rdT {B : Addr → Prop} {H H' : Hp} {a : Addr} {vs : List V} (k : Keep B H H') (h : Rd H a (.tup vs)) : Rd H' a (.tup vs) := by
  rcases h with h | ⟨o, h⟩
  · exact .inl (k a _ h (.inr rfl))
  · exact .inr ⟨o, k a _ h (.inr rfl)⟩
theorem Keep.sqT {B : Addr → Prop} {K : PySem.W.Frag} {H H' : Hp} {a : Addr} {vs : List V} (k : Keep B H H') (h : SqT K H a vs) : SqT K H' a vs := by
  rcases h with h | h
  · exact .inl (k.rdT h)
  · exact .inr h
variable {K : PySem.W.Frag} {H H' : Hp}
mutual
theorem Rep.keep {B : Addr → Prop} (k : Keep B H H') : ∀ {v : V} {d : D} {F : List Addr}, Rep K H v d F → (∀ a ∈ F, ¬ B a) → Rep K H' v d F
  | _, _, _, .non, _ => .non
  | _, _, _, .bl b, _ => .bl b
  | _, _, _, .int i, _ => .int i
  | _, _, _, .str x, _ => .str x
  | _, _, _, .tup h r, n => .tup (k.sqT h) (Reps.keep k r n)
  | _, _, _, .lst h r, n => .lst (k _ _ h (.inl (n _ List.mem_cons_self))) (Reps.keep k r fun a m => n a (List.mem_cons_of_mem _ m))
  | _, _, _, .dK h l r, n => .dK (k _ _ h (.inl (n _ List.mem_cons_self))) l (Reps.keep k r fun a m => n a (List.mem_cons_of_mem _ m))
  | _, _, _, .dT h l r, n => .dT (k _ _ h (.inl (n _ List.mem_cons_self))) l (Reps.keep k r fun a m => n a (List.mem_cons_of_mem _ m))
theorem Reps.keep {B : Addr → Prop} (k : Keep B H H') : ∀ {vs : List V} {ds : List D} {F : List Addr}, Reps K H vs ds F → (∀ a ∈ F, ¬ B a) → Reps K H' vs ds F
  | _, _, _, .nil, _ => .nil
  | _, _, _, .cons r t, n => .cons (Rep.keep k r fun a m => n a (List.mem_append_left _ m)) (Reps.keep k t fun a m => n a (List.mem_append_right _ m))
end
mutual
theorem Rep.trk : ∀ {v : V} {d : D} {F : List Addr}, Rep K H v d F → ∀ a ∈ F, ∃ o, H a = some o ∧ mutO o = true
  | _, _, _, .non, a, m => by cases m
  | _, _, _, .bl _, a, m => by cases m
  | _, _, _, .int _, a, m => by cases m
  | _, _, _, .str _, a, m => by cases m
  | _, _, _, .tup _ r, a, m => Reps.trk r a m
  | _, _, _, .lst h r, a, m => by
    rcases List.mem_cons.mp m with e | m
    · subst e; exact ⟨_, h, rfl⟩
    · exact Reps.trk r a m
  | _, _, _, .dK h _ r, a, m => by
    rcases List.mem_cons.mp m with e | m
    · subst e; exact ⟨_, h, rfl⟩
    · exact Reps.trk r a m
  | _, _, _, .dT h _ r, a, m => by
    rcases List.mem_cons.mp m with e | m
    · subst e; exact ⟨_, h, rfl⟩
    · exact Reps.trk r a m
theorem Reps.trk : ∀ {vs : List V} {ds : List D} {F : List Addr}, Reps K H vs ds F → ∀ a ∈ F, ∃ o, H a = some o ∧ mutO o = true
  | _, _, _, .nil, a, m => by cases m
  | _, _, _, .cons r t, a, m => by
    rcases List.mem_append.mp m with m | m
    · exact Rep.trk r a m
    · exact Reps.trk t a m
end
/-! nothing of it may change -/
mutual
@[simp] def imm : D → Bool
  | .none | .bool _ | .int _ | .str _ => true
  | .tuple ds => imms ds
  | .list _ | .dict _ => false
@[simp] def imms : List D → Bool
  | [] => true
  | d :: ds => imm d && imms ds
end
mutual
theorem Rep.imm : ∀ {v : V} {d : D} {F : List Addr}, Rep K H v d F → imm d = true → F = []
  | _, _, _, .non, _ => rfl
  | _, _, _, .bl _, _ => rfl
  | _, _, _, .int _, _ => rfl
  | _, _, _, .str _, _ => rfl
  | _, _, _, .tup _ r, e => Reps.imm r (by rw [DL.imm] at e; exact e)
  | _, _, _, .lst _ _, e => by rw [DL.imm] at e; cases e
  | _, _, _, .dK _ _ _, e => by rw [DL.imm] at e; cases e
  | _, _, _, .dT _ _ _, e => by rw [DL.imm] at e; cases e
theorem Reps.imm : ∀ {vs : List V} {ds : List D} {F : List Addr}, Reps K H vs ds F → imms ds = true → F = []
  | _, _, _, .nil, _ => rfl
  | _, _, _, .cons r t, e => by
    rw [DL.imms, Bool.and_eq_true] at e
    rw [Rep.imm r e.1, Reps.imm t e.2]
    rfl
end
theorem imm_tup {ds : List D} : DL.imm (.tuple ds) = imms ds := by rw [DL.imm]
theorem imm_int {i : Int} : DL.imm (.int i) = true := by rw [DL.imm]
theorem imm_str {i : Str} : DL.imm (.str i) = true := by rw [DL.imm]
theorem imm_bl {i : Bool} : DL.imm (.bool i) = true := by rw [DL.imm]
theorem imm_non : DL.imm .none = true := by rw [DL.imm]
theorem Reps.length : ∀ {vs : List V} {ds : List D} {F : List Addr}, Reps K H vs ds F → vs.length = ds.length
  | _, _, _, .nil => rfl
  | _, _, _, .cons _ t => by rw [List.length_cons, List.length_cons, Reps.length t]
theorem Reps.append : ∀ {vs ws : List V} {ds es : List D} {F G : List Addr}, Reps K H vs ds F → Reps K H ws es G → Reps K H (vs ++ ws) (ds ++ es) (F ++ G)
  | _, _, _, _, _, _, .nil, t => t
  | _, _, _, _, _, _, .cons r s, t => by
    rw [List.append_assoc]
    exact .cons r (Reps.append s t)
theorem Reps.get : ∀ {vs : List V} {ds : List D} {F : List Addr} {i : Nat} {d : D}, Reps K H vs ds F → ds[i]? = some d → ∃ v G, vs[i]? = some v ∧ Rep K H v d G ∧ ∀ a ∈ G, a ∈ F
  | _, _, _, _, _, .nil, e => by simp at e
  | _, _, _, 0, _, .cons r t, e => by
    simp at e; subst e
    exact ⟨_, _, rfl, r, fun a m => List.mem_append_left _ m⟩
  | _, _, _, i + 1, _, .cons r t, e => by
    obtain ⟨v, G, h1, h2, h3⟩ := Reps.get (i := i) t (by simpa using e)
    exact ⟨v, G, by simpa using h1, h2, fun a m => List.mem_append_right _ (h3 a m)⟩
theorem Reps.getV : ∀ {vs : List V} {ds : List D} {F : List Addr} {i : Nat} {v : V}, Reps K H vs ds F → vs[i]? = some v → ∃ d G, ds[i]? = some d ∧ Rep K H v d G ∧ ∀ a ∈ G, a ∈ F
  | _, _, _, _, _, .nil, e => by simp at e
  | _, _, _, 0, _, .cons r t, e => by
    simp at e; subst e
    exact ⟨_, _, rfl, r, fun a m => List.mem_append_left _ m⟩
  | _, _, _, i + 1, _, .cons r t, e => by
    obtain ⟨d, G, h1, h2, h3⟩ := Reps.getV (i := i) t (by simpa using e)
    exact ⟨d, G, by simpa using h1, h2, fun a m => List.mem_append_right _ (h3 a m)⟩
theorem imms_get {ds : List D} (h : imms ds = true) {i : Nat} {d : D} (e : ds[i]? = some d) : imm d = true := by
  induction ds generalizing i with
  | nil => simp at e
  | cons x r ih =>
    rw [imms, Bool.and_eq_true] at h
    cases i with
    | zero => simp at e; rw [← e]; exact h.1
    | succ i => exact ih h.2 (by simpa using e)
/-- the footprint of the i-th place apart -/
theorem Reps.split : ∀ {vs : List V} {ds : List D} {F : List Addr} {i : Nat} {d : D}, Reps K H vs ds F → ds[i]? = some d → ∃ v F1 G F2, F = F1 ++ (G ++ F2) ∧ vs[i]? = some v ∧ Rep K H v d G ∧ Reps K H (vs.take i) (ds.take i) F1 ∧ Reps K H (vs.drop (i + 1)) (ds.drop (i + 1)) F2
  | _, _, _, _, _, .nil, e => by simp at e
  | _, _, _, 0, _, .cons r t, e => by
    simp at e; subst e
    exact ⟨_, [], _, _, rfl, rfl, r, .nil, t⟩
  | _, _, _, i + 1, _, .cons r t, e => by
    obtain ⟨v, F1, G, F2, h0, h1, h2, h3, h4⟩ := Reps.split (i := i) t (by simpa using e)
    subst h0
    exact ⟨v, _ ++ F1, G, F2, by simp, by simpa using h1, h2, .cons r h3, h4⟩
/-! ### environments -/
structure EnvR (K : PySem.W.Frag) (H : Hp) (σ : L2.St) (δ : DEnv) (Fs : FT) : Prop where
  len : σ.length = δ.length
  «at» : ∀ i d, δ[i]? = some (some d) → ∃ v, σ[i]? = some (some v) ∧ Rep K H v d (Fs i)
  no : ∀ i, (∀ d, δ[i]? ≠ some (some d)) → Fs i = []
/-- all footprints stand apart -/
structure Sep (Fs : FT) (Fr : List Addr) : Prop where
  ndr : Fr.Nodup
  nds : ∀ i, (Fs i).Nodup
  dis : ∀ i j, i ≠ j → ∀ a ∈ Fs i, a ∉ Fs j
  dir : ∀ i, ∀ a ∈ Fr, a ∉ Fs i
def InM (M : List Nat) (Fs : FT) (a : Addr) : Prop := ∃ i ∈ M, a ∈ Fs i
def InAll (Fs : FT) (a : Addr) : Prop := ∃ i, a ∈ Fs i
theorem InM.mono {M M' : List Nat} {Fs : FT} {a : Addr} (h : InM M Fs a) (s : ∀ i ∈ M, i ∈ M') : InM M' Fs a := let ⟨i, m, q⟩ := h; ⟨i, s i m, q⟩
theorem InM.all {M : List Nat} {Fs : FT} {a : Addr} (h : InM M Fs a) : InAll Fs a := let ⟨i, _, q⟩ := h; ⟨i, q⟩
theorem EnvR.trk {σ : L2.St} {δ : DEnv} {Fs : FT} (E : EnvR K H σ δ Fs) {i : Nat} {a : Addr} (m : a ∈ Fs i) : ∃ o, H a = some o ∧ mutO o = true := by
  by_cases h : ∃ d, δ[i]? = some (some d)
  · obtain ⟨d, e⟩ := h
    obtain ⟨v, _, r⟩ := E.at i d e
    exact r.trk a m
  · rw [E.no i fun d e => h ⟨d, e⟩] at m; cases m
/-- the environment in a heap that keeps its objects -/
theorem EnvR.keep {σ : L2.St} {δ : DEnv} {Fs : FT} {B : Addr → Prop} (E : EnvR K H σ δ Fs) (k : Keep B H H') (n : ∀ i, ∀ a ∈ Fs i, ¬ B a) : EnvR K H' σ δ Fs :=
  ⟨E.len, fun i d e => let ⟨v, h, r⟩ := E.at i d e; ⟨v, h, r.keep k (n i)⟩, E.no⟩
theorem Sep.left {Fs : FT} {F G : List Addr} (s : Sep Fs (F ++ G)) : Sep Fs F :=
  ⟨(List.nodup_append.mp s.ndr).1, s.nds, s.dis, fun i a m => s.dir i a (List.mem_append_left _ m)⟩
theorem Sep.right {Fs : FT} {F G : List Addr} (s : Sep Fs (F ++ G)) : Sep Fs G :=
  ⟨(List.nodup_append.mp s.ndr).2.1, s.nds, s.dis, fun i a m => s.dir i a (List.mem_append_right _ m)⟩
theorem Sep.drop {Fs : FT} {F : List Addr} (s : Sep Fs F) : Sep Fs [] := ⟨List.nodup_nil, s.nds, s.dis, fun _ _ m => (nomatch m)⟩
/-- from (H, δ, Fs) to (H', δ', Fs') with the new owned Fr: only the slots of M were touched -/
structure Post (K : PySem.W.Frag) (M : List Nat) (H : Hp) (δ : DEnv) (Fs : FT) (σ' : L2.St) (H' : Hp) (δ' : DEnv) (Fs' : FT) (Fr : List Addr) : Prop where
  env : EnvR K H' σ' δ' Fs'
  sep : Sep Fs' Fr
  trk : ∀ a ∈ Fr, ∃ o, H' a = some o ∧ mutO o = true
  sub : ∀ i ∈ M, ∀ a ∈ Fs' i, InM M Fs a ∨ H a = none
  subr : ∀ a ∈ Fr, InM M Fs a ∨ H a = none
  keep : Keep (InM M Fs) H H'
  same : ∀ i, i ∉ M → Fs' i = Fs i ∧ δ'[i]? = δ[i]?
theorem Post.refl {σ : L2.St} {δ : DEnv} {Fs : FT} {M : List Nat} (E : EnvR K H σ δ Fs) (s : Sep Fs []) : Post K M H δ Fs σ H δ Fs [] :=
  ⟨E, s, fun _ m => (nomatch m), fun i m a h => .inl ⟨i, m, h⟩, fun _ m => (nomatch m), .refl, fun _ _ => ⟨rfl, rfl⟩⟩
theorem Post.all {M : List Nat} {δ δ' : DEnv} {Fs Fs' : FT} {σ' : L2.St} {Fr : List Addr} (p : Post K M H δ Fs σ' H' δ' Fs' Fr) {i : Nat} {a : Addr} (m : a ∈ Fs' i) : InAll Fs a ∨ H a = none := by
  by_cases h : i ∈ M
  · exact (p.sub i h a m).imp InM.all id
  · rw [(p.same i h).1] at m; exact .inl ⟨i, m⟩
theorem Post.mono {M M' : List Nat} {δ δ' : DEnv} {Fs Fs' : FT} {σ' : L2.St} {Fr : List Addr} (p : Post K M H δ Fs σ' H' δ' Fs' Fr) (h : ∀ i ∈ M, i ∈ M') : Post K M' H δ Fs σ' H' δ' Fs' Fr :=
  ⟨p.env, p.sep, p.trk, fun i m a q => by
    by_cases hi : i ∈ M
    · exact (p.sub i hi a q).imp (fun z => z.mono h) id
    · rw [(p.same i hi).1] at q; exact .inl ⟨i, m, q⟩, fun a m => (p.subr a m).imp (fun z => z.mono h) id, p.keep.imp fun a _ z => z.mono h, fun i n => p.same i fun z => n (h i z)⟩
theorem Post.comp {M1 M2 : List Nat} {H1 H2 : Hp} {δ δ1 δ2 : DEnv} {Fs Fs1 Fs2 : FT} {σ1 σ2 : L2.St} {F1 F2 : List Addr} (p : Post K M1 H δ Fs σ1 H1 δ1 Fs1 F1) (q : Post K M2 H1 δ1 Fs1 σ2 H2 δ2 Fs2 F2) : Post K (M1 ++ M2) H δ Fs σ2 H2 δ2 Fs2 (F1 ++ F2) := by
  have back : ∀ a, InM M2 Fs1 a ∨ H1 a = none → InM (M1 ++ M2) Fs a ∨ H a = none := fun a h => by
    rcases h with ⟨j, hj, m⟩ | h
    · by_cases h1 : j ∈ M1
      · exact (p.sub j h1 a m).imp (fun z => z.mono fun i m => List.mem_append_left _ m) id
      · rw [(p.same j h1).1] at m
        exact .inl ⟨j, List.mem_append_right _ hj, m⟩
    · cases e : H a with
      | none => exact .inr rfl
      | some o =>
        refine .inl ?_
        by_cases hb : InM M1 Fs a
        · exact hb.mono fun i m => List.mem_append_left _ m
        · rw [p.keep a o e (.inl hb)] at h; cases h
  have away : ∀ a ∈ F1, ¬ (InM M2 Fs1 a ∨ H1 a = none) := fun a m h => by
    rcases h with ⟨j, _, hm⟩ | h
    · exact p.sep.dir j a m hm
    · obtain ⟨o, e, _⟩ := p.trk a m
      rw [e] at h; cases h
  have kp : ∀ a ∈ F1, ∀ o, H1 a = some o → H2 a = some o := fun a m o e => q.keep a o e (.inl fun z => away a m (.inl z))
  refine ⟨q.env, ⟨?_, q.sep.nds, q.sep.dis, fun i a m => ?_⟩, fun a m => ?_, fun i m a h => ?_, fun a m => ?_, fun a o e c => ?_, fun i n => ?_⟩
  · refine List.nodup_append.mpr ⟨p.sep.ndr, q.sep.ndr, fun a h1 b h2 => ?_⟩
    rintro rfl
    exact away a h1 (q.subr a h2)
  · rcases List.mem_append.mp m with m | m
    · intro z
      by_cases h2 : i ∈ M2
      · exact away a m (q.sub i h2 a z)
      · rw [(q.same i h2).1] at z
        exact p.sep.dir i a m z
    · exact q.sep.dir i a m
  · rcases List.mem_append.mp m with m | m
    · obtain ⟨o, e, h⟩ := p.trk a m
      exact ⟨o, kp a m o e, h⟩
    · exact q.trk a m
  · by_cases h2 : i ∈ M2
    · exact back a (q.sub i h2 a h)
    · rw [(q.same i h2).1] at h
      have h1 : i ∈ M1 := (List.mem_append.mp m).resolve_right h2
      exact (p.sub i h1 a h).imp (fun z => z.mono fun i m => List.mem_append_left _ m) id
  · rcases List.mem_append.mp m with m | m
    · exact (p.subr a m).imp (fun z => z.mono fun i m => List.mem_append_left _ m) id
    · exact back a (q.subr a m)
  · refine q.keep a o (p.keep a o e (c.imp (fun n z => n (z.mono fun i m => List.mem_append_left _ m)) id)) (c.imp (fun n z => ?_) id)
    rcases back a (.inl z) with z | z
    · exact n z
    · rw [e] at z; cases z
  · have n1 : i ∉ M1 := fun z => n (List.mem_append_left _ z)
    have n2 : i ∉ M2 := fun z => n (List.mem_append_right _ z)
    exact ⟨(q.same i n2).1.trans (p.same i n1).1, (q.same i n2).2.trans (p.same i n1).2⟩
end DL
set_option maxHeartbeats 1000000
/-! DL1: outcomes, kinds of operands, the judgements of expressions. -/
namespace DL
open PySem PySem.Spec PyProof.Rows L2
/-- an own exception: its class's name, its fields -/
structure Exc where
  cls : Str
  flds : List (Str × D)
inductive Out (α : Type) where
  | ok (a : α) (δ : DEnv)
  | ex (x : Exc)
abbrev EM (α : Type) := DEnv → Option (Out α)
@[simp] def EM.bind {α β : Type} (f : EM α) (g : α → EM β) : EM β := fun δ => match f δ with
  | some (.ok a δ1) => g a δ1
  | some (.ex x) => some (.ex x)
  | none => none
inductive Kd where
  | own | bor (B : List Nat) | sl (i : Nat)
structure ExR (mg : Str → Option Value) (K : PySem.W.Frag) (H : Hp) (x : Exc) (cv : Value) (da : Option Addr) : Prop where
  cls : mg x.cls = some cv
  flds : ∃ dx fs, da = some dx ∧ H dx = some (.xd fs) ∧ fs.map (·.1) = x.flds.map (·.1) ∧ Reps K H (fs.map (·.2)) (x.flds.map (·.2)) []
/-- what all contexts of a family share -/
structure Sig where
  P : Program
  w : World
  K : PySem.W.Frag
  mg : Str → Option Value
  base : Heap
  N : List Str
  sc : Scope
  fn : Str → Bool
  k : Nat
  E : XK
structure Fits (S : Sig) (X : Cx) : Prop where
  prog : X.prog = S.P
  w : X.w = S.w
  K : X.K = S.K
  mg : X.mg = S.mg
  base : X.base = S.base
  N : X.N = S.N
  sc : X.env.scope = S.sc
  fn : ∀ x, S.fn x = true → X.fn x = true
  room : Room S.k X.A
  calm : X.calm = true
  tk : Takes X (fun cls d _ H => S.E cls d H)
  own : PassesOwn (model X.prog X.w) X.A X.env X.xe
def tB (S : Sig) (e : Expr) : TE := fun σ H Q => ∃ t, (∀ X, Fits S X → PE X e t) ∧ t σ H Q
def tBT (S : Sig) (e : Expr) : TT := fun σ H Q => ∃ t, (∀ X, Fits S X → PT X e t) ∧ t σ H Q
def tBA (S : Sig) : List Expr → TA
  | [] => tNil
  | e :: es => tCons (tB S e) (tBA S es)
section
variable {S : Sig} {X : Cx}
theorem pe_tB {e : Expr} (h : Fits S X) : PE X e (tB S e) := ⟨fun pins s σ H Q I ⟨t, ht, q⟩ => (ht X h).run pins s σ H Q I q⟩
theorem pt_tB {e : Expr} (h : Fits S X) : PT X e (tBT S e) := ⟨fun pins s σ H Q I ⟨t, ht, q⟩ => (ht X h).run pins s σ H Q I q⟩
/-- plain arguments: no star in them -/
def Plain : List Expr → Prop
  | [] => True
  | e :: es => (∀ env, starEach (e :: es) env = (false, eval e env) :: starEach es env) ∧ Plain es
theorem pa_tB (h : Fits S X) : ∀ {es : List Expr}, Plain es → PA X es (tBA S es)
  | [], _ => pa_nil
  | _ :: _, p => pa_cons (pe_tB h) (pa_tB h p.2) (p.1 _)
end
/-- an exception's way out is wished for -/
def XOk (S : Sig) (H : Hp) (Fs : FT) (x : Exc) : Prop := ∀ cv da H', ExR S.mg S.K H' x cv da → Keep (InAll Fs) H H' → S.E cv da H'
theorem Keep.trans {B B1 B2 : Addr → Prop} {H H1 H2 : Hp} (k1 : Keep B1 H H1) (k2 : Keep B2 H1 H2) (h1 : ∀ a, H a ≠ none → B1 a → B a) (h2 : ∀ a, H a ≠ none → B2 a → B a) : Keep B H H2 := fun a o e c => by
  have e1 := k1 a o e (c.imp (fun n b => n (h1 a (by rw [e]; simp) b)) id)
  exact k2 a o e1 (c.imp (fun n b => n (h2 a (by rw [e]; simp) b)) id)
theorem XOk.post {S : Sig} {M : List Nat} {H H' : Hp} {δ δ' : DEnv} {Fs Fs' : FT} {σ' : L2.St} {Fr : List Addr} {x : Exc} (h : XOk S H Fs x) (p : Post S.K M H δ Fs σ' H' δ' Fs' Fr) : XOk S H' Fs' x := fun cv da H2 r k =>
  h cv da H2 r (p.keep.trans k (fun a _ b => b.all) fun a n ⟨i, m⟩ => (p.all m).resolve_right n)
def Opn (K : PySem.W.Frag) (H : Hp) (σ : L2.St) (δ : DEnv) (Fs : FT) (Fr : List Addr) (κ : Kd) (v : V) (d : D) : Prop := match κ with
  | .own => Rep K H v d Fr
  | .bor B => Fr = [] ∧ ∃ F, Rep K H v d F ∧ ∀ a ∈ F, InM B Fs a
  | .sl i => Fr = [] ∧ σ[i]? = some (some v) ∧ δ[i]? = some (some d)
theorem Opn.rep {K : PySem.W.Frag} {H : Hp} {σ : L2.St} {δ : DEnv} {Fs : FT} {Fr : List Addr} {κ : Kd} {v : V} {d : D} (E : EnvR K H σ δ Fs) (h : Opn K H σ δ Fs Fr κ v d) : ∃ F, Rep K H v d F := by
  cases κ with
  | own => exact ⟨_, h⟩
  | bor B => exact ⟨_, h.2.choose_spec.1⟩
  | sl i =>
    obtain ⟨_, h1, h2⟩ := h
    obtain ⟨v', e, r⟩ := E.at i d h2
    rw [h1] at e
    cases e
    exact ⟨_, r⟩
/-- THE JUDGEMENT of an expression: f tells its value and the environment behind it -/
def DE (S : Sig) (e : Expr) (κ : Kd) (M : List Nat) (f : EM D) : Prop :=
  ∀ (σ : L2.St) (H : Hp) (δ : DEnv) (Fs : FT) (Q : VK) (r : Out D), EnvR S.K H σ δ Fs → Sep Fs [] → f δ = some r →
    (match r with
      | .ok d δ' => ∀ v H' Fs' Fr, Post S.K M H δ Fs σ H' δ' Fs' Fr → Opn S.K H' σ δ' Fs' Fr κ v d → Q v H'
      | .ex x => XOk S H Fs x) → tB S e σ H Q
/-- of a test -/
def DT (S : Sig) (e : Expr) (M : List Nat) (f : EM Bool) : Prop :=
  ∀ (σ : L2.St) (H : Hp) (δ : DEnv) (Fs : FT) (Q : Bool → Hp → Prop) (r : Out Bool), EnvR S.K H σ δ Fs → Sep Fs [] → f δ = some r →
    (match r with
      | .ok b δ' => ∀ H' Fs', Post S.K M H δ Fs σ H' δ' Fs' [] → Q b H'
      | .ex x => XOk S H Fs x) → tBT S e σ H Q
/-- of arguments -/
inductive OpnL (K : PySem.W.Frag) (H : Hp) (σ : L2.St) (δ : DEnv) (Fs : FT) : List Kd → List V → List D → List (List Addr) → Prop
  | nil : OpnL K H σ δ Fs [] [] [] []
  | cons {κ : Kd} {v : V} {d : D} {F : List Addr} {κs : List Kd} {vs : List V} {ds : List D} {Gs : List (List Addr)} : Opn K H σ δ Fs F κ v d → OpnL K H σ δ Fs κs vs ds Gs → OpnL K H σ δ Fs (κ :: κs) (v :: vs) (d :: ds) (F :: Gs)
def DA (S : Sig) (es : List Expr) (κs : List Kd) (M : List Nat) (f : EM (List D)) : Prop :=
  ∀ (σ : L2.St) (H : Hp) (δ : DEnv) (Fs : FT) (Q : List V → Hp → Prop) (r : Out (List D)), EnvR S.K H σ δ Fs → Sep Fs [] → f δ = some r →
    (match r with
      | .ok ds δ' => ∀ vs H' Fs' Frs, Post S.K M H δ Fs σ H' δ' Fs' Frs.flatten → OpnL S.K H' σ δ' Fs' κs vs ds Frs → Q vs H'
      | .ex x => XOk S H Fs x) → tBA S es σ H Q
theorem OpnL.reps {K : PySem.W.Frag} {H : Hp} {σ : L2.St} {δ : DEnv} {Fs : FT} (E : EnvR K H σ δ Fs) : ∀ {κs : List Kd} {vs : List V} {ds : List D} {Frs : List (List Addr)}, OpnL K H σ δ Fs κs vs ds Frs → ∃ F, Reps K H vs ds F
  | _, _, _, _, .nil => ⟨_, .nil⟩
  | _, _, _, _, .cons h t => by
    obtain ⟨F, r⟩ := h.rep E
    obtain ⟨G, s⟩ := OpnL.reps E t
    exact ⟨_, .cons r s⟩
theorem OpnL.owns {K : PySem.W.Frag} {H : Hp} {σ : L2.St} {δ : DEnv} {Fs : FT} : ∀ {κs : List Kd} {vs : List V} {ds : List D} {Frs : List (List Addr)}, (∀ κ ∈ κs, κ = .own) → OpnL K H σ δ Fs κs vs ds Frs → Reps K H vs ds Frs.flatten
  | _, _, _, _, _, .nil => .nil
  | κ :: _, _, _, _, h, .cons (F := F) p t => by
    have e := h κ List.mem_cons_self
    subst e
    exact .cons (F := F) p (OpnL.owns (fun κ m => h κ (List.mem_cons_of_mem _ m)) t)
theorem Opn.owned {K : PySem.W.Frag} {H : Hp} {σ : L2.St} {δ : DEnv} {Fs : FT} {F : List Addr} {κ : Kd} {v : V} {d : D} (h : Opn K H σ δ Fs F κ v d) : F = [] ∨ Rep K H v d F := by
  cases κ with
  | own => exact .inr h
  | bor B => exact .inl h.1
  | sl i => exact .inl h.1
/-- read again what a slot holds, once the operands behind it have been reckoned -/
@[simp] def reread (κ : Kd) (d : D) (δ : DEnv) : Option D := match κ with
  | .sl i => (δ[i]?).join
  | _ => some d
def okk (κ : Kd) (M : List Nat) : Bool := match κ with
  | .bor B => B.all fun b => !M.contains b
  | _ => true
theorem Opn.carry {K : PySem.W.Frag} {M : List Nat} {H1 H2 : Hp} {σ : L2.St} {δ1 δ2 : DEnv} {Fs1 Fs2 : FT} {F G : List Addr} {κ : Kd} {v : V} {d d' : D}
    (h : Opn K H1 σ δ1 Fs1 F κ v d) (s : Sep Fs1 F) (p : Post K M H1 δ1 Fs1 σ H2 δ2 Fs2 G) (c : okk κ M = true) (e : reread κ d δ2 = some d') : Opn K H2 σ δ2 Fs2 F κ v d' := by
  cases κ with
  | own =>
    have e : d = d' := Option.some.inj e
    subst e
    exact Rep.keep p.keep h fun a m ⟨i, _, z⟩ => s.dir i a m z
  | bor B =>
    have e : d = d' := Option.some.inj e
    subst e
    obtain ⟨h0, F', r, hb⟩ := h
    have c : ∀ b ∈ B, b ∉ M := fun b m => by
      have := List.all_eq_true.mp c b m
      simpa using this
    refine ⟨h0, F', r.keep p.keep fun a m ⟨i, hi, z⟩ => ?_, fun a m => ?_⟩
    · obtain ⟨b, mb, zb⟩ := hb a m
      by_cases q : i = b
      · subst q; exact c i mb hi
      · exact s.dis i b q a z zb
    · obtain ⟨b, mb, zb⟩ := hb a m
      exact ⟨b, mb, by rw [(p.same b (c b mb)).1]; exact zb⟩
  | sl i =>
    obtain ⟨h0, h1, h2⟩ := h
    refine ⟨h0, h1, ?_⟩
    have e : (δ2[i]?).join = some d' := e
    cases q : δ2[i]? with
    | none => rw [q] at e; cases e
    | some o =>
      rw [q] at e
      have e : o = some d' := e
      rw [e]
@[simp] def cArgs : List (Kd × EM D) → EM (List D)
  | [] => fun δ => some (.ok [] δ)
  | (κ, f) :: r => EM.bind f fun d => EM.bind (cArgs r) fun ds δ2 => match reread κ d δ2 with
    | some d' => some (.ok (d' :: ds) δ2)
    | none => none
theorem da_nil {S : Sig} : DA S [] [] [] (cArgs []) := fun σ H δ Fs Q r E s h k => by
  cases h
  exact k [] H Fs [] (Post.refl E s) .nil
theorem bind_some {α β : Type} {f : EM α} {g : α → EM β} {δ : DEnv} {r : Out β} (h : EM.bind f g δ = some r) : (∃ a δ1, f δ = some (.ok a δ1) ∧ g a δ1 = some r) ∨ ∃ x, f δ = some (.ex x) ∧ r = .ex x := by
  unfold EM.bind at h
  cases e : f δ with
  | none => rw [e] at h; cases h
  | some o =>
    rw [e] at h
    cases o with
    | ok a δ1 => exact .inl ⟨a, δ1, rfl, h⟩
    | ex x => exact .inr ⟨x, rfl, (Option.some.inj h).symm⟩
/-- the sep of two operands' temporaries -/
theorem Post.sep0 {K : PySem.W.Frag} {M : List Nat} {H H' : Hp} {δ δ' : DEnv} {Fs Fs' : FT} {σ' : L2.St} {Fr : List Addr} (p : Post K M H δ Fs σ' H' δ' Fs' Fr) : Sep Fs' [] := p.sep.drop
theorem da_cons {S : Sig} {e : Expr} {es : List Expr} {κ : Kd} {κs : List Kd} {M Ms : List Nat} {f : EM D} {fs : List (Kd × EM D)} (h : DE S e κ M f) (hr : DA S es κs Ms (cArgs fs)) (c : okk κ Ms = true := by rfl) :
    DA S (e :: es) (κ :: κs) (M ++ Ms) (cArgs ((κ, f) :: fs)) := fun σ H δ Fs Q r E s hf k => by
  show tB S e σ H fun x H1 => tBA S es σ H1 fun xs H2 => Q (x :: xs) H2
  rcases bind_some hf with ⟨d, δ1, h1, h2⟩ | ⟨x, h1, rfl⟩
  · refine h σ H δ Fs _ _ E s h1 fun v H1 Fs1 F1 p1 o1 => ?_
    rcases bind_some h2 with ⟨ds, δ2, h3, h4⟩ | ⟨x, h3, rfl⟩
    · cases e : reread κ d δ2 with
      | none => rw [e] at h4; cases h4
      | some d' =>
        rw [e] at h4
        cases h4
        refine hr σ H1 δ1 Fs1 _ _ p1.env p1.sep0 h3 fun vs H2 Fs2 Frs p2 o2 => ?_
        exact k (v :: vs) H2 Fs2 (F1 :: Frs) (p1.comp p2) (.cons (o1.carry p1.sep p2 c e) o2)
    · exact hr σ H1 δ1 Fs1 _ _ p1.env p1.sep0 h3 (XOk.post k p1)
  · exact h σ H δ Fs _ _ E s h1 k
end DL
set_option maxHeartbeats 1000000
/-! DL2: rules of expressions. -/
namespace DL
open PySem PySem.Spec PyProof.Rows L2
variable {S : Sig}
/-! ### what a step on values makes -/
structure NewV (K : PySem.W.Frag) (H : Hp) (z : V) (d : D) (H' : Hp) (F : List Addr) : Prop where
  keep : Keep (fun _ => False) H H'
  rep : Rep K H' z d F
  fresh : ∀ a ∈ F, H a = none
  nd : F.Nodup
theorem NewV.same {K : PySem.W.Frag} {H : Hp} {z : V} {d : D} (r : Rep K H z d []) : NewV K H z d H [] := ⟨.refl, r, fun _ m => (nomatch m), List.nodup_nil⟩
def VOk (K : PySem.W.Frag) (r : List V → Hp → VK → Prop) (ds : List D) (dz : D) : Prop :=
  ∀ H vs F Q, Reps K H vs ds F → (∀ z H' Fz, NewV K H z dz H' Fz → Q z H') → r vs H Q
theorem Post.newv {K : PySem.W.Frag} {M : List Nat} {H H1 H2 : Hp} {δ δ1 : DEnv} {Fs Fs1 : FT} {σ : L2.St} {F Fz : List Addr} {z : V} {d : D} (p : Post K M H δ Fs σ H1 δ1 Fs1 F) (n : NewV K H1 z d H2 Fz) : Post K M H δ Fs σ H2 δ1 Fs1 Fz := by
  have p0 : Post K M H δ Fs σ H1 δ1 Fs1 [] := ⟨p.env, p.sep0, fun _ m => (nomatch m), p.sub, fun _ m => (nomatch m), p.keep, p.same⟩
  have q : Post K [] H1 δ1 Fs1 σ H2 δ1 Fs1 Fz := by
    refine ⟨p.env.keep n.keep fun _ _ _ h => h, ⟨n.nd, p.sep.nds, p.sep.dis, fun i a m z => ?_⟩, n.rep.trk, fun _ m => (nomatch m), fun a m => .inr (n.fresh a m), n.keep.imp fun _ _ h => h.elim, fun _ _ => ⟨rfl, rfl⟩⟩
    obtain ⟨o, e, _⟩ := p.env.trk z
    rw [n.fresh a m] at e
    cases e
  exact (p0.comp q).mono fun i m => by simpa using m
@[simp] def cV (f : EM (List D)) (g : List D → Option D) : EM D := EM.bind f fun ds δ => match g ds with
  | some d => some (.ok d δ)
  | none => none
theorem de_v {e : Expr} {es : List Expr} {κs : List Kd} {M : List Nat} {f : EM (List D)} {g : List D → Option D} (hA : DA S es κs M f)
    (h0 : ∃ r : List V → Hp → VK → Prop, ∀ X, Fits S X → PE X e (fun σ H Q => tBA S es σ H fun vs H1 => r vs H1 Q))
    (hg : ∀ ds dz, g ds = some dz → ∃ r : List V → Hp → VK → Prop, (∀ X, Fits S X → PE X e (fun σ H Q => tBA S es σ H fun vs H1 => r vs H1 Q)) ∧ VOk S.K r ds dz) : DE S e .own M (cV f g) := fun σ H δ Fs Q r E s hf k => by
  rcases bind_some hf with ⟨ds, δ1, h1, h2⟩ | ⟨x, h1, rfl⟩
  · cases e2 : g ds with
    | none => rw [e2] at h2; cases h2
    | some dz =>
      rw [e2] at h2
      cases h2
      obtain ⟨r, hr, ok⟩ := hg ds dz e2
      refine ⟨_, hr, hA σ H δ Fs _ _ E s h1 fun vs H1 Fs1 Frs p o => ?_⟩
      obtain ⟨F, rs⟩ := o.reps p.env
      exact ok H1 vs F Q rs fun z H2 Fz n => k z H2 Fs1 Fz (p.newv n) n.rep
  · obtain ⟨r, hr⟩ := h0
    exact ⟨_, hr, hA σ H δ Fs _ _ E s h1 k⟩
def l1 (r : V → Hp → VK → Prop) : List V → Hp → VK → Prop := fun vs H Q => match vs with
  | [x] => r x H Q
  | _ => False
def l2 (r : R2) : List V → Hp → VK → Prop := fun vs H Q => match vs with
  | [x, y] => r x y H Q
  | _ => False
/-! ### names and constants -/
@[simp] def cC (d : D) : EM D := fun δ => some (.ok d δ)
@[simp] def cSl (i : Nat) : EM D := fun δ => match δ[i]? with
  | some (some d) => some (.ok d δ)
  | _ => none
@[simp] def cMv (i : Nat) : EM D := fun δ => match δ[i]? with
  | some (some d) => some (.ok d (δ.set i none))
  | _ => none
@[simp] def cImm (f : EM D) : EM D := EM.bind f fun d δ => if imm d = true then some (.ok d δ) else none
theorem de_const {e : Expr} {v : V} {d : D} (h : ∀ X, Fits S X → PE X e (tC v)) (r : ∀ H, Rep S.K H v d []) : DE S e .own [] (cC d) := fun σ H δ Fs Q r0 E s hf k => by
  cases hf
  exact ⟨_, h, k v H Fs [] (Post.refl E s) (r H)⟩
theorem de_int {i : Int} {j pos} : DE S (.Constant (.int i) j pos) .own [] (cC (.int i)) := de_const (fun _ _ => pe_int) fun _ => .int i
theorem de_bl {b : Bool} {j pos} : DE S (.Constant (.bool b) j pos) .own [] (cC (.bool b)) := de_const (fun _ _ => pe_bl) fun _ => .bl b
theorem de_non {j pos} : DE S (.Constant .none j pos) .own [] (cC .none) := de_const (fun _ _ => pe_non) fun _ => .non
theorem de_str {x : Str} {j pos} : DE S (.Constant (.str x) j pos) .own [] (cC (.str x)) := de_const (fun _ _ => pe_str) fun _ => .str x
/-- a name of the def: its place, how it is seen -/
structure NmS (S : Sig) (i : Nat) (x : Str) : Prop where
  hN : S.N[i]? = some x
  vis : Vis S.sc x
  hd : (x == ("__debug__" : Str)) = false
  hcd : (x == ("__classdict__" : Str)) = false
theorem NmS.pe {X : Cx} {i : Nat} {x : Str} {pos : Pos} (n : NmS S i x) (h : Fits S X) : PE X (.Name x pos) (tVar i) :=
  pe_var (by rw [h.N]; exact n.hN) (by rw [h.sc]; exact n.vis) n.hd n.hcd
theorem de_sl {i : Nat} {x : Str} {pos : Pos} (n : NmS S i x) : DE S (.Name x pos) (.sl i) [] (cSl i) := fun σ H δ Fs Q r E s hf k => by
  unfold cSl at hf
  cases e : δ[i]? with
  | none => rw [e] at hf; cases hf
  | some o =>
    cases o with
    | none => rw [e] at hf; cases hf
    | some d =>
      rw [e] at hf
      cases hf
      obtain ⟨v, hv, rp⟩ := E.at i d e
      exact ⟨_, fun X hX => n.pe hX, v, hv, k v H Fs [] (Post.refl E s) ⟨rfl, hv, e⟩⟩
theorem de_imm {e : Expr} {κ : Kd} {M : List Nat} {f : EM D} (h : DE S e κ M f) : DE S e .own M (cImm f) := fun σ H δ Fs Q r E s hf k => by
  rcases bind_some hf with ⟨d, δ1, h1, h2⟩ | ⟨x, h1, rfl⟩
  · by_cases hi : imm d = true
    · rw [if_pos hi] at h2
      cases h2
      refine h σ H δ Fs Q _ E s h1 fun v H1 Fs1 F p o => ?_
      obtain ⟨G, rp⟩ := o.rep p.env
      have e := rp.imm hi
      subst e
      have p0 : Post S.K M H δ Fs σ H1 δ1 Fs1 [] := ⟨p.env, p.sep0, fun _ m => (nomatch m), p.sub, fun _ m => (nomatch m), p.keep, p.same⟩
      exact k v H1 Fs1 [] p0 rp
    · rw [if_neg hi] at h2; cases h2
  · exact h σ H δ Fs Q _ E s h1 k
def setF (Fs : FT) (i : Nat) (F : List Addr) : FT := fun j => if j = i then F else Fs j
theorem setF_same {Fs : FT} {i : Nat} {F : List Addr} : setF Fs i F i = F := if_pos rfl
theorem setF_ne {Fs : FT} {i j : Nat} {F : List Addr} (h : j ≠ i) : setF Fs i F j = Fs j := if_neg h
theorem de_mv {i : Nat} {x : Str} {pos : Pos} (n : NmS S i x) : DE S (.Name x pos) .own [i] (cMv i) := fun σ H δ Fs Q r E s hf k => by
  unfold cMv at hf
  cases e : δ[i]? with
  | none => rw [e] at hf; cases hf
  | some o =>
    cases o with
    | none => rw [e] at hf; cases hf
    | some d =>
      rw [e] at hf
      cases hf
      obtain ⟨v, hv, rp⟩ := E.at i d e
      have hi : i < δ.length := (List.getElem?_eq_some_iff.mp e).1
      refine ⟨_, fun X hX => n.pe hX, v, hv, k v H (setF Fs i []) (Fs i) ⟨⟨?_, fun j dj h => ?_, fun j h => ?_⟩, ⟨s.nds i, fun j => ?_, fun j l hjl a m => ?_, fun j a m => ?_⟩, rp.trk, fun j hj a m => ?_, fun a m => .inl ⟨i, List.mem_cons_self, m⟩, .refl, fun j hj => ?_⟩ rp⟩
      · rw [List.length_set]; exact E.len
      · by_cases q : i = j
        · subst q
          rw [List.getElem?_set_self hi] at h
          cases h
        · rw [List.getElem?_set_ne q] at h
          rw [setF_ne (Ne.symm q)]
          exact E.at j dj h
      · by_cases q : j = i
        · rw [q, setF_same]
        · rw [setF_ne q]
          exact E.no j fun dj hh => h dj (by rw [List.getElem?_set_ne (Ne.symm q)]; exact hh)
      · by_cases q : j = i
        · rw [q, setF_same]; exact List.nodup_nil
        · rw [setF_ne q]; exact s.nds j
      · by_cases q : j = i
        · rw [q, setF_same] at m; cases m
        · rw [setF_ne q] at m
          by_cases q2 : l = i
          · rw [q2, setF_same]; exact fun z => (nomatch z)
          · rw [setF_ne q2]; exact s.dis j l hjl a m
      · by_cases q : j = i
        · rw [q, setF_same]; exact fun z => (nomatch z)
        · rw [setF_ne q]; exact s.dis i j (Ne.symm q) a m
      · have q : j = i := by simpa using hj
        rw [q, setF_same] at m; cases m
      · have q : j ≠ i := by simpa using hj
        exact ⟨setF_ne q, List.getElem?_set_ne (Ne.symm q)⟩
/-! ### displays -/
def isOwn : Kd → Bool
  | .own => true
  | _ => false
theorem owns_of {κs : List Kd} (h : κs.all isOwn = true) : ∀ κ ∈ κs, κ = .own := fun κ m => by
  have := List.all_eq_true.mp h κ m
  cases κ <;> first | rfl | cases this
@[simp] def gTup : List D → Option D := fun ds => if ds.length ≤ 1000000 then some (.tuple ds) else none
@[simp] def gLst : List D → Option D := fun ds => if ds.length ≤ 1000000 then some (.list ds) else none
theorem lim_line {n : Nat} (h : n ≤ 1000000) : n ≤ sizeLine := by rw [sizeLine_eq]; omega
theorem lim_lt {n : Nat} (h : n < 1000000) : n < sizeLine := by rw [sizeLine_eq]; omega
/-- what is free behind was free before, or a touched slot's -/
theorem Post.old {K : PySem.W.Frag} {M : List Nat} {H H' : Hp} {δ δ' : DEnv} {Fs Fs' : FT} {σ' : L2.St} {Fr : List Addr} {a : Addr} (p : Post K M H δ Fs σ' H' δ' Fs' Fr) (hq : H' a = none) : InM M Fs a ∨ H a = none := by
  by_cases hb : InM M Fs a
  · exact .inl hb
  · cases h : H a with
    | none => exact .inr rfl
    | some o => rw [p.keep a o h (.inl hb)] at hq; cases hq
theorem Post.newT {K : PySem.W.Frag} {M : List Nat} {H H1 : Hp} {δ δ1 : DEnv} {Fs Fs1 : FT} {σ : L2.St} {F : List Addr} {p : Addr} {o : HO} (q : Post K M H δ Fs σ H1 δ1 Fs1 F) (hp : H1 p = none) : Post K M H δ Fs σ (upd H1 p o) δ1 Fs1 F := by
  have k1 : Keep (fun _ => False) H1 (upd H1 p o) := .new hp
  refine ⟨q.env.keep k1 fun _ _ _ h => h, q.sep, fun a m => ?_, q.sub, q.subr, q.keep.trans k1 (fun _ _ h => h) fun _ _ h => h.elim, q.same⟩
  obtain ⟨u, e, h⟩ := q.trk a m
  exact ⟨u, k1 a u e (.inl fun z => z), h⟩
theorem de_tup {es : List Expr} {κs : List Kd} {M : List Nat} {f : EM (List D)} {n : Nat} {pos : Pos} (hA : DA S es κs M f) (ho : κs.all isOwn = true) (hp : Plain es) : DE S (.Tuple es n pos) .own M (cV f gTup) := fun σ H δ Fs Q r E s hf k => by
  refine ⟨_, fun X hX => pe_tup (pa_tB hX hp), ?_⟩
  show tBA S es σ H fun xs H1 => xs.length ≤ sizeLine ∧ ∀ p, H1 p = none → Q (.ref p) (upd H1 p (.tup xs))
  rcases bind_some hf with ⟨ds, δ1, h1, h2⟩ | ⟨x, h1, rfl⟩
  · by_cases hl : ds.length ≤ 1000000
    · rw [gTup, if_pos hl] at h2
      cases h2
      refine hA σ H δ Fs _ _ E s h1 fun vs H1 Fs1 Frs p o => ?_
      have rs := o.owns (owns_of ho)
      refine ⟨by rw [rs.length]; exact lim_line hl, fun q hq => k _ _ Fs1 Frs.flatten (p.newT hq) (.tup (.inl (.inl upd_same)) ?_)⟩
      exact rs.keep (Keep.new hq (B := fun _ => False)) fun _ _ h => h
    · rw [gTup, if_neg hl] at h2; cases h2
  · exact hA σ H δ Fs _ _ E s h1 k
theorem de_lst {es : List Expr} {κs : List Kd} {M : List Nat} {f : EM (List D)} {pos : Pos} (hA : DA S es κs M f) (ho : κs.all isOwn = true) (hp : Plain es) : DE S (.List es pos) .own M (cV f gLst) := fun σ H δ Fs Q r E s hf k => by
  refine ⟨_, fun X hX => pe_lst (pa_tB hX hp), ?_⟩
  show tBA S es σ H fun xs H1 => xs.length ≤ sizeLine ∧ ∀ p, H1 p = none → Q (.ref p) (upd H1 p (.lst xs))
  rcases bind_some hf with ⟨ds, δ1, h1, h2⟩ | ⟨x, h1, rfl⟩
  · by_cases hl : ds.length ≤ 1000000
    · rw [gLst, if_pos hl] at h2
      cases h2
      refine hA σ H δ Fs _ _ E s h1 fun vs H1 Fs1 Frs p o => ?_
      have rs := o.owns (owns_of ho)
      refine ⟨by rw [rs.length]; exact lim_line hl, fun q hq => ?_⟩
      have rs2 := rs.keep (Keep.new hq (o := .lst vs) (B := fun _ => False)) fun _ _ h => h
      have p2 := p.newT (o := .lst vs) hq
      have nq : ∀ a, (∃ o, H1 a = some o ∧ mutO o = true) → a ≠ q := fun a ⟨o, e, _⟩ z => by rw [z, hq] at e; cases e
      refine k _ _ Fs1 (q :: Frs.flatten) ⟨p2.env, ⟨?_, p2.sep.nds, p2.sep.dis, fun i a m => ?_⟩, fun a m => ?_, p2.sub, fun a m => ?_, p2.keep, p2.same⟩ (.lst upd_same rs2)
      · exact List.nodup_cons.mpr ⟨fun m => nq q (p.trk q m) rfl, p.sep.ndr⟩
      · rcases List.mem_cons.mp m with e | m
        · subst e
          exact fun z => nq a (p.env.trk z) rfl
        · exact p.sep.dir i a m
      · rcases List.mem_cons.mp m with e | m
        · subst e; exact ⟨_, upd_same, rfl⟩
        · exact p2.trk a m
      · rcases List.mem_cons.mp m with e | m
        · subst e
          exact p.old hq
        · exact p.subr a m
    · rw [gLst, if_neg hl] at h2; cases h2
  · exact hA σ H δ Fs _ _ E s h1 k
end DL
set_option maxHeartbeats 1000000
/-! DL3: operators, comparisons, built-ins of values. -/
namespace DL
open PySem PySem.Spec PyProof.Rows L2
variable {S : Sig}
theorem Reps.i1 {K : PySem.W.Frag} {H : Hp} {vs : List V} {d : D} {F : List Addr} (r : Reps K H vs [d] F) : ∃ v G, vs = [v] ∧ Rep K H v d G := by
  cases r with
  | cons a t => cases t; exact ⟨_, _, rfl, a⟩
theorem Reps.i2 {K : PySem.W.Frag} {H : Hp} {vs : List V} {d e : D} {F : List Addr} (r : Reps K H vs [d, e] F) : ∃ v w G1 G2, vs = [v, w] ∧ Rep K H v d G1 ∧ Rep K H w e G2 := by
  cases r with
  | cons a t =>
    obtain ⟨w, G, rfl, b⟩ := t.i1
    exact ⟨_, _, _, _, rfl, a, b⟩
theorem Reps.i3 {K : PySem.W.Frag} {H : Hp} {vs : List V} {d e g : D} {F : List Addr} (r : Reps K H vs [d, e, g] F) : ∃ v w x G1 G2 G3, vs = [v, w, x] ∧ Rep K H v d G1 ∧ Rep K H w e G2 ∧ Rep K H x g G3 := by
  cases r with
  | cons a t =>
    obtain ⟨w, x, G, G', rfl, b, c⟩ := t.i2
    exact ⟨_, _, _, _, _, _, rfl, a, b, c⟩
theorem imms_append {ds es : List D} : imms (ds ++ es) = (imms ds && imms es) := by
  induction ds with
  | nil => simp [imms]
  | cons d r ih => simp [imms, ih, Bool.and_assoc]
theorem imms_all {ds : List D} : imms ds = true ↔ ∀ d ∈ ds, imm d = true := by
  induction ds with
  | nil => simp [imms]
  | cons d r ih => simp [imms, ih]
/-- a new object that may change, of things that don't -/
theorem NewV.lst {K : PySem.W.Frag} {H : Hp} {p : Addr} {vs : List V} {ds : List D} (hp : H p = none) (r : Reps K H vs ds []) : NewV K H (.ref p) (.list ds) (upd H p (.lst vs)) [p] :=
  ⟨.new hp, .lst upd_same (r.keep (Keep.new hp (B := fun _ => False)) fun _ m => (nomatch m)), fun a m => (List.mem_singleton.mp m) ▸ hp, by simp⟩
theorem NewV.tup {K : PySem.W.Frag} {H : Hp} {p : Addr} {vs : List V} {ds : List D} (hp : H p = none) (r : Reps K H vs ds []) : NewV K H (.ref p) (.tuple ds) (upd H p (.tup vs)) [] :=
  ⟨.new hp, .tup (.inl (.inl upd_same)) (r.keep (Keep.new hp (B := fun _ => False)) fun _ m => (nomatch m)), fun _ m => (nomatch m), List.nodup_nil⟩
theorem Reps.imm' {K : PySem.W.Frag} {H : Hp} {vs : List V} {ds : List D} {F : List Addr} (r : Reps K H vs ds F) (h : DL.imms ds = true) : Reps K H vs ds [] := by
  have e := r.imm h
  subst e
  exact r
theorem Rep.imm' {K : PySem.W.Frag} {H : Hp} {v : V} {d : D} {F : List Addr} (r : Rep K H v d F) (h : DL.imm d = true) : Rep K H v d [] := by
  have e := r.imm h
  subst e
  exact r
theorem Rep.iInt {K : PySem.W.Frag} {H : Hp} {v : V} {i : Int} {F : List Addr} (r : Rep K H v (.int i) F) : v = .int i := by cases r; rfl
theorem Rep.iStr {K : PySem.W.Frag} {H : Hp} {v : V} {i : Str} {F : List Addr} (r : Rep K H v (.str i) F) : v = .str i := by cases r; rfl
theorem Rep.iBl {K : PySem.W.Frag} {H : Hp} {v : V} {i : Bool} {F : List Addr} (r : Rep K H v (.bool i) F) : v = .bl i := by cases r; rfl
theorem Rep.iNon {K : PySem.W.Frag} {H : Hp} {v : V} {F : List Addr} (r : Rep K H v .none F) : v = .non := by cases r; rfl
theorem Rep.iLst {K : PySem.W.Frag} {H : Hp} {v : V} {ds : List D} {F : List Addr} (r : Rep K H v (.list ds) F) : ∃ a vs G, v = .ref a ∧ H a = some (.lst vs) ∧ Reps K H vs ds G ∧ F = a :: G := by
  cases r with
  | lst h t => exact ⟨_, _, _, rfl, h, t, rfl⟩
theorem Rep.iTup {K : PySem.W.Frag} {H : Hp} {v : V} {ds : List D} {F : List Addr} (r : Rep K H v (.tuple ds) F) : ∃ a vs, v = .ref a ∧ SqT K H a vs ∧ Reps K H vs ds F := by
  cases r with
  | tup h t => exact ⟨_, _, rfl, h, t⟩
theorem sqL_of {K : PySem.W.Frag} {H : Hp} {a : Addr} {vs : List V} (h : H a = some (.lst vs)) : SqL K H a vs := .inl (.inl h)
/-! ### the forms of the tree -/
section
variable {a b : Expr} {pos : Pos}
theorem f_bin {op : Operator} {r : R2} (h : ∀ X, Fits S X → OpR X (binaryOp op) r) : ∀ X, Fits S X → PE X (.BinOp a op b pos) (fun σ H Q => tBA S [a, b] σ H fun vs H1 => l2 r vs H1 Q) := fun X hX => pe_op (h X hX) (pe_tB hX) (pe_tB hX)
theorem f_un {op : UnaryOp} {r : V → Hp → VK → Prop} (h : ∀ X, Fits S X → UnR X (unaryOp op) r) : ∀ X, Fits S X → PE X (.UnaryOp op a pos) (fun σ H Q => tBA S [a] σ H fun vs H1 => l1 r vs H1 Q) := fun X hX => pe_un (h X hX) (pe_tB hX)
theorem f_cmp {op : CmpOp} {r : R2} (h : ∀ X, Fits S X → OpR X (compareOp op) r) (hm : behindInMarks op b = false) : ∀ X, Fits S X → PE X (.Compare a [op] [b] pos) (fun σ H Q => tBA S [a, b] σ H fun vs H1 => l2 r vs H1 Q) := fun X hX => pe_cmpR (h X hX) (pe_tB hX) (pe_tB hX) hm
theorem f_ix {r : R2} (h : ∀ X, Fits S X → IxR X r) (hs : PlainIx b) : ∀ X, Fits S X → PE X (.Subscript a b pos) (fun σ H Q => tBA S [a, b] σ H fun vs H1 => l2 r vs H1 Q) := fun X hX => pe_ix (h X hX) (pe_tB hX) (pe_tB hX) hs
/-- a module's or built-in name that no statement of the top binds -/
structure BtS (S : Sig) (x : Str) : Prop where
  gl : S.sc.names.lookup x = some .globalImplicit
  mg : S.mg x = none
theorem BtS.g {X : Cx} {x : Str} (h : BtS S x) (hX : Fits S X) : Gl X x := by
  show X.env.scope.names.lookup x = _
  rw [hX.sc]; exact h.gl
theorem BtS.m {X : Cx} {x : Str} (h : BtS S x) (hX : Fits S X) : X.mg x = none := by rw [hX.mg]; exact h.mg
theorem plain_any {pos : Pos} {env : Env} : ∀ {es : List Expr}, Plain es → (backTo pos (starEach es env)).any (·.1) = false
  | [], _ => rfl
  | e :: es, p => by
    rw [p.1]
    unfold backTo
    simp only [List.map_cons, List.any_cons]
    have ih := plain_any (pos := pos) (env := env) p.2
    unfold backTo at ih
    rw [ih]
    rfl
theorem f_callB {x : Str} {id : String} {p : Pos} {e : Expr} {es : List Expr} {r : List V → Hp → VK → Prop} (n : BtS S x) (h : ∀ X, Fits S X → CallR X (.builtin id) r) (hv : bootBuiltins x = some (.builtin id)) (hp : Plain (e :: es)) (hn : x ≠ "__name__" := by decide) (hdb : (x == ("__debug__" : Str)) = false := by decide)
    : ∀ X, Fits S X → PE X (.Call (.Name x p) (e :: es) [] pos) (fun σ H Q => tBA S (e :: es) σ H fun vs H1 => r vs H1 Q) := fun X hX =>
  pe_callB (h X hX) (n.g hX) (n.m hX) hv (pa_tB hX hp) hn hdb (hp.1 _) (plain_any hp.2)
theorem f_callTy {x : Str} {id : String} {p : Pos} {e : Expr} {es : List Expr} {r : List V → Hp → VK → Prop} (n : BtS S x) (h : ∀ X, Fits S X → CallR X (.type id) r) (hv : bootBuiltins x = some (.type id)) (hp : Plain (e :: es)) (hn : x ≠ "__name__" := by decide) (hdb : (x == ("__debug__" : Str)) = false := by decide)
    : ∀ X, Fits S X → PE X (.Call (.Name x p) (e :: es) [] pos) (fun σ H Q => tBA S (e :: es) σ H fun vs H1 => r vs H1 Q) := fun X hX =>
  pe_callTy (h X hX) (n.g hX) (n.m hX) hv (pa_tB hX hp) hn hdb (hp.1 _) (plain_any hp.2)
end
/-! ### arithmetic on ints by a rule -/
@[simp] def gI (C : Int → Int → Prop) [∀ i j, Decidable (C i j)] (g : Int → Int → D) : List D → Option D
  | [.int i, .int j] => if C i j then some (g i j) else none
  | _ => none
theorem gI_inv {C : Int → Int → Prop} [∀ i j, Decidable (C i j)] {g : Int → Int → D} {ds : List D} {d : D} (h : gI C g ds = some d) : ∃ i j, ds = [.int i, .int j] ∧ C i j ∧ d = g i j := by
  unfold gI at h
  split at h
  · rename_i i j
    by_cases c : C i j
    · rw [if_pos c] at h; exact ⟨i, j, rfl, c, (Option.some.inj h).symm⟩
    · rw [if_neg c] at h; cases h
  · cases h
theorem vok_I {C : Int → Int → Prop} {g : Int → Int → V} {i j : Int} {d : D} (c : C i j) (h : ∀ H, Rep S.K H (g i j) d []) : VOk S.K (l2 (rI C g)) [.int i, .int j] d := fun H vs F Q r k => by
  obtain ⟨v, w, _, _, rfl, r1, r2⟩ := r.i2
  exact ⟨i, j, r1.iInt, r2.iInt, c, k _ H [] (.same (h H))⟩
theorem vok_I0 {g : Int → Int → V} {i j : Int} {d : D} (h : ∀ H, Rep S.K H (g i j) d []) : VOk S.K (l2 (rI0 g)) [.int i, .int j] d := fun H vs F Q r k => by
  obtain ⟨v, w, _, _, rfl, r1, r2⟩ := r.i2
  exact ⟨i, j, r1.iInt, r2.iInt, k _ H [] (.same (h H))⟩
instance {i j : Int} : Decidable (CMul i j) := by unfold CMul; infer_instance
instance {i j : Int} : Decidable (CDiv i j) := by unfold CDiv; infer_instance
instance {i j : Int} : Decidable (CPow i j) := by unfold CPow; infer_instance
section
variable {a b : Expr} {pos : Pos} {κs : List Kd} {M : List Nat} {f : EM (List D)}
@[simp] def gSub : List D → Option D := gI (fun _ _ => True) fun i j => .int (i - j)
@[simp] def gMul : List D → Option D := gI CMul fun i j => .int (i * j)
@[simp] def gFdiv : List D → Option D := gI CDiv fun i j => .int (i / j)
@[simp] def gMod : List D → Option D := gI (fun _ j => 0 < j) fun i j => .int (i % j)
@[simp] def gPow : List D → Option D := gI CPow fun i j => .int (i ^ j.toNat)
@[simp] def gShl : List D → Option D := gI CPow fun i j => .int (i * 2 ^ j.toNat)
@[simp] def gShr : List D → Option D := gI (fun _ j => 0 ≤ j) fun i j => .int (i / 2 ^ j.toNat)
@[simp] def gAnd : List D → Option D := gI (fun _ _ => True) fun i j => .int (Builtin.bitAnd i j)
@[simp] def gOr : List D → Option D := gI (fun _ _ => True) fun i j => .int (Builtin.bitOr i j)
theorem de_sub (hA : DA S [a, b] κs M f) : DE S (.BinOp a .Sub b pos) .own M (cV f gSub) := de_v hA ⟨_, f_bin fun _ _ => op_sub⟩ fun ds dz h => by
  obtain ⟨i, j, rfl, _, rfl⟩ := gI_inv h
  exact ⟨_, f_bin fun _ _ => op_sub, vok_I0 fun _ => .int _⟩
theorem de_mul (hA : DA S [a, b] κs M f) : DE S (.BinOp a .Mult b pos) .own M (cV f gMul) := de_v hA ⟨_, f_bin fun _ _ => op_mul⟩ fun ds dz h => by
  obtain ⟨i, j, rfl, c, rfl⟩ := gI_inv h
  exact ⟨_, f_bin fun _ _ => op_mul, vok_I c fun _ => .int _⟩
theorem de_fdiv (hA : DA S [a, b] κs M f) : DE S (.BinOp a .FloorDiv b pos) .own M (cV f gFdiv) := de_v hA ⟨_, f_bin fun _ _ => op_fdiv⟩ fun ds dz h => by
  obtain ⟨i, j, rfl, c, rfl⟩ := gI_inv h
  exact ⟨_, f_bin fun _ _ => op_fdiv, vok_I c fun _ => .int _⟩
theorem de_mod (hA : DA S [a, b] κs M f) : DE S (.BinOp a .Mod b pos) .own M (cV f gMod) := de_v hA ⟨_, f_bin fun _ _ => op_mod⟩ fun ds dz h => by
  obtain ⟨i, j, rfl, c, rfl⟩ := gI_inv h
  exact ⟨_, f_bin fun _ _ => op_mod, vok_I c fun _ => .int _⟩
theorem de_pow (hA : DA S [a, b] κs M f) : DE S (.BinOp a .Pow b pos) .own M (cV f gPow) := de_v hA ⟨_, f_bin fun _ _ => op_pow⟩ fun ds dz h => by
  obtain ⟨i, j, rfl, c, rfl⟩ := gI_inv h
  exact ⟨_, f_bin fun _ _ => op_pow, vok_I c fun _ => .int _⟩
theorem de_shl (hA : DA S [a, b] κs M f) : DE S (.BinOp a .LShift b pos) .own M (cV f gShl) := de_v hA ⟨_, f_bin fun _ _ => op_shl⟩ fun ds dz h => by
  obtain ⟨i, j, rfl, c, rfl⟩ := gI_inv h
  exact ⟨_, f_bin fun _ _ => op_shl, vok_I c fun _ => .int _⟩
theorem de_shr (hA : DA S [a, b] κs M f) : DE S (.BinOp a .RShift b pos) .own M (cV f gShr) := de_v hA ⟨_, f_bin fun _ _ => op_shr⟩ fun ds dz h => by
  obtain ⟨i, j, rfl, c, rfl⟩ := gI_inv h
  exact ⟨_, f_bin fun _ _ => op_shr, vok_I c fun _ => .int _⟩
theorem de_band (hA : DA S [a, b] κs M f) : DE S (.BinOp a .BitAnd b pos) .own M (cV f gAnd) := de_v hA ⟨_, f_bin fun _ _ => op_and⟩ fun ds dz h => by
  obtain ⟨i, j, rfl, c, rfl⟩ := gI_inv h
  exact ⟨_, f_bin fun _ _ => op_and, vok_I0 fun _ => .int _⟩
theorem de_bor (hA : DA S [a, b] κs M f) : DE S (.BinOp a .BitOr b pos) .own M (cV f gOr) := de_v hA ⟨_, f_bin fun _ _ => op_or⟩ fun ds dz h => by
  obtain ⟨i, j, rfl, c, rfl⟩ := gI_inv h
  exact ⟨_, f_bin fun _ _ => op_or, vok_I0 fun _ => .int _⟩
@[simp] def gNeg : List D → Option D
  | [.int i] => some (.int (-i))
  | _ => none
theorem de_neg {f : EM (List D)} (hA : DA S [a] κs M f) : DE S (.UnaryOp .USub a pos) .own M (cV f gNeg) := de_v hA ⟨_, f_un fun _ _ => un_neg⟩ fun ds dz h => by
  unfold gNeg at h
  split at h
  · cases h
    refine ⟨_, f_un fun _ _ => un_neg, fun H vs F Q r k => ?_⟩
    obtain ⟨v, _, rfl, r1⟩ := r.i1
    exact ⟨_, r1.iInt, k _ H [] (.same (.int _))⟩
  · cases h
/-- a + b: ints, texts, lists, tuples -/
@[simp] def gAdd : List D → Option D
  | [.int i, .int j] => some (.int (i + j))
  | [.str x, .str y] => if x.length + y.length ≤ 1000000 then some (.str (x ++ y)) else none
  | [.list xs, .list ys] => if imms xs = true ∧ imms ys = true ∧ xs.length + ys.length ≤ 1000000 then some (.list (xs ++ ys)) else none
  | [.tuple xs, .tuple ys] => if imms xs = true ∧ imms ys = true ∧ xs.length + ys.length ≤ 1000000 then some (.tuple (xs ++ ys)) else none
  | _ => none
theorem Reps.nil_iff {K : PySem.W.Frag} {H : Hp} {vs : List V} {ds : List D} {F : List Addr} (r : Reps K H vs ds F) : vs = [] ↔ ds = [] := by
  have := r.length
  constructor
  · rintro rfl; exact List.eq_nil_of_length_eq_zero this.symm
  · rintro rfl; exact List.eq_nil_of_length_eq_zero this
theorem de_add (hA : DA S [a, b] κs M f) : DE S (.BinOp a .Add b pos) .own M (cV f gAdd) := de_v hA ⟨_, f_bin fun _ _ => op_add⟩ fun ds dz h => by
  unfold gAdd at h
  split at h
  · cases h
    exact ⟨_, f_bin fun _ _ => op_add, vok_I0 fun _ => .int _⟩
  · rename_i x y
    split at h
    · rename_i hl
      cases h
      refine ⟨_, f_bin fun _ _ => op_add_str, fun H vs F Q r k => ?_⟩
      obtain ⟨v, w, _, _, rfl, r1, r2⟩ := r.i2
      exact ⟨_, _, r1.iStr, r2.iStr, lim_line hl, k _ H [] (.same (.str _))⟩
    · cases h
  · rename_i xs ys
    split at h
    · rename_i hl
      cases h
      refine ⟨_, f_bin fun _ _ => op_cat, fun H vs F Q r k => ?_⟩
      obtain ⟨v, w, _, _, rfl, r1, r2⟩ := r.i2
      obtain ⟨p, vs, G, rfl, hp, s1, _⟩ := r1.iLst
      obtain ⟨q, ws, G', rfl, hq, s2, _⟩ := r2.iLst
      refine ⟨p, q, vs, ws, rfl, rfl, hp, hq, by rw [s1.length, s2.length]; exact lim_line hl.2.2, fun z hz => k _ _ _ (NewV.lst hz ?_)⟩
      exact (s1.imm' hl.1).append (s2.imm' hl.2.1)
    · cases h
  · rename_i xs ys
    split at h
    · rename_i hl
      cases h
      refine ⟨_, f_bin fun X hX => (by have e := op_catA (X := X); rw [hX.K] at e; exact e), fun H vs F Q r k => ?_⟩
      obtain ⟨v, w, _, _, rfl, r1, r2⟩ := r.i2
      obtain ⟨p, vs, rfl, hp, s1⟩ := (r1.imm' (by rw [imm_tup]; exact hl.1)).iTup
      obtain ⟨q, ws, rfl, hq, s2⟩ := (r2.imm' (by rw [imm_tup]; exact hl.2.1)).iTup
      refine ⟨p, q, vs, ws, rfl, rfl, hp, hq, by rw [s1.length, s2.length]; exact lim_line hl.2.2, fun e => ?_, fun e1 e2 => ?_, fun _ _ z hz => k _ _ _ (NewV.tup hz (s1.append s2))⟩
      · have e' := s1.nil_iff.mp e
        subst e'
        exact k _ _ [] (.same (.tup hq s2))
      · have e' := s2.nil_iff.mp e2
        subst e'
        exact k _ _ [] (.same (by rw [List.append_nil]; exact .tup hp s1))
    · cases h
  · cases h
end
end DL
set_option maxHeartbeats 1000000
/-! DL4: comparisons, subscripts, slices, built-ins. -/
namespace DL
open PySem PySem.Spec PyProof.Rows L2
variable {S : Sig}
theorem Fits.u64 {X : Cx} (h : Fits S X) : X.A.units + 64 < cLine := h.room.units
theorem Fits.u65 {X : Cx} (h : Fits S X) : X.A.units + 65 < cLine := by have := h.room.un; omega
theorem Fits.u0 {X : Cx} (h : Fits S X) : X.A.units < cLine := h.room.units0
mutual
theorem Rep.dp {K : PySem.W.Frag} {H : Hp} : ∀ {v : V} {d : D} {F : List Addr}, Rep K H v d F → PyData.canLay0 d = true → Dp K H v d
  | _, _, _, .non, _ => .non
  | _, _, _, .bl b, _ => .bl b
  | _, _, _, .int i, _ => .int i
  | _, _, _, .str x, _ => .str x
  | _, _, _, .tup h r, e => .tup h (Reps.dp r (by rw [PyData.canLay0] at e; exact e))
  | _, _, _, .lst h r, e => .lst (sqL_of h) (Reps.dp r (by rw [PyData.canLay0] at e; exact e))
  | _, _, _, .dK _ _ _, e => by rw [PyData.canLay0] at e; cases e
  | _, _, _, .dT _ _ _, e => by rw [PyData.canLay0] at e; cases e
theorem Reps.dp {K : PySem.W.Frag} {H : Hp} : ∀ {vs : List V} {ds : List D} {F : List Addr}, Reps K H vs ds F → PyData.canLayAll0 ds = true → DpAll K H vs ds
  | _, _, _, .nil, _ => .nil
  | _, _, _, .cons r t, e => by
    rw [PyData.canLayAll0, Bool.and_eq_true] at e
    exact .cons (Rep.dp r e.1) (Reps.dp t e.2)
end
theorem shaped_lay {d : D} (h : SeqAt.shaped d = true) : PyData.canLay0 d = true := SeqAt.canLay_of_shaped h
/-- a comparison, by values -/
structure CmpOk (S : Sig) (op : CmpOp) (g : List D → Option D) : Prop where
  some_ : ∃ r : R2, ∀ X, Fits S X → OpR X (compareOp op) r
  all_ : ∀ ds dz, g ds = some dz → ∃ r : R2, (∀ X, Fits S X → OpR X (compareOp op) r) ∧ VOk S.K (l2 r) ds dz
/-! ### == -/
/-- == of two values -/
@[simp] def eqD : D → D → Option Bool
  | .int i, .int j => some (decide (i = j))
  | .str x, .str y => some (decide (x = y))
  | .bool x, .bool y => some (decide (x = y))
  | d, e => if SeqAt.shaped d = true ∧ SeqAt.shaped e = true then some (PyData.eqv d e) else none
@[simp] def gEq : List D → Option D
  | [d, e] => (eqD d e).map .bool
  | _ => none
@[simp] def gNe : List D → Option D
  | [d, e] => (eqD d e).map fun b => .bool (!b)
  | _ => none
theorem eq_rule {op : CmpOp} {n : Bool → Bool} (h1 : ∀ X, OpR X (compareOp op) (fun x y H Q => scal x y = true ∧ Q (.bl (n (decide (x = y)))) H))
    (h2 : ∀ X : Cx, X.A.units + 64 < cLine → OpR X (compareOp op) (fun x y H Q => ∃ d e, Dp X.K H x d ∧ Dp X.K H y e ∧ SeqAt.shaped d = true ∧ SeqAt.shaped e = true ∧ Q (.bl (n (PyData.eqv d e))) H)) {d e : D} {b : Bool} (h : eqD d e = some b) :
    ∃ r : R2, (∀ X, Fits S X → OpR X (compareOp op) r) ∧ VOk S.K (l2 r) [d, e] (.bool (n b)) := by
  have sc : ∀ (x y : V), scal x y = true → (∀ H v F, Rep S.K H v d F → v = x) → (∀ H v F, Rep S.K H v e F → v = y) → decide (x = y) = b →
      ∃ r : R2, (∀ X, Fits S X → OpR X (compareOp op) r) ∧ VOk S.K (l2 r) [d, e] (.bool (n b)) := fun x y hs hx hy hb => by
    refine ⟨_, fun X _ => h1 X, fun H vs F Q r k => ?_⟩
    obtain ⟨v, w, _, _, rfl, r1, r2⟩ := r.i2
    have e1 := hx _ _ _ r1
    have e2 := hy _ _ _ r2
    subst e1 e2 hb
    exact ⟨hs, k _ H [] (.same (.bl _))⟩
  unfold eqD at h
  split at h
  · rename_i i j
    exact sc (.int i) (.int j) rfl (fun _ _ _ r => r.iInt) (fun _ _ _ r => r.iInt) (by cases h; simp)
  · rename_i i j
    exact sc (.str i) (.str j) rfl (fun _ _ _ r => r.iStr) (fun _ _ _ r => r.iStr) (by cases h; simp)
  · rename_i i j
    exact sc (.bl i) (.bl j) rfl (fun _ _ _ r => r.iBl) (fun _ _ _ r => r.iBl) (by cases h; simp)
  · split at h
    · rename_i hs
      cases h
      refine ⟨fun x y H Q => ∃ d e, Dp S.K H x d ∧ Dp S.K H y e ∧ SeqAt.shaped d = true ∧ SeqAt.shaped e = true ∧ Q (.bl (n (PyData.eqv d e))) H, fun X hX => (by rw [← hX.K]; exact h2 X hX.u64), fun H vs F Q r k => ?_⟩
      obtain ⟨v, w, _, _, rfl, r1, r2⟩ := r.i2
      exact ⟨_, _, r1.dp (shaped_lay hs.1), r2.dp (shaped_lay hs.2), hs.1, hs.2, k _ H [] (.same (.bl _))⟩
    · cases h
section
variable {a b : Expr} {pos : Pos} {κs : List Kd} {M : List Nat} {f : EM (List D)}
theorem co_eq : CmpOk S .Eq gEq := ⟨⟨_, fun _ _ => op_eq⟩, fun ds dz h => by
  unfold gEq at h
  split at h
  · rename_i d e
    cases q : eqD d e with
    | none => rw [q] at h; cases h
    | some x =>
      rw [q] at h
      cases h
      obtain ⟨r, h1, h2⟩ := eq_rule (S := S) (n := id) (fun _ => op_eq) (fun _ hu => op_eqD hu) q
      exact ⟨_, h1, h2⟩
  · cases h⟩
theorem co_ne : CmpOk S .NotEq gNe := ⟨⟨_, fun _ _ => op_ne⟩, fun ds dz h => by
  unfold gNe at h
  split at h
  · rename_i d e
    cases q : eqD d e with
    | none => rw [q] at h; cases h
    | some x =>
      rw [q] at h
      cases h
      obtain ⟨r, h1, h2⟩ := eq_rule (S := S) (n := not) (fun _ => op_ne) (fun _ hu => op_neD hu) q
      exact ⟨_, h1, h2⟩
  · cases h⟩
/-- < of ints, of texts -/
@[simp] def gLt : List D → Option D
  | [.int i, .int j] => some (.bool (decide (i < j)))
  | [.str i, .str j] => some (.bool (decide (i.cps.toList < j.cps.toList)))
  | _ => none
@[simp] def gLe : List D → Option D
  | [.int i, .int j] => some (.bool (decide (i ≤ j)))
  | [.str i, .str j] => some (.bool (!decide (j.cps.toList < i.cps.toList)))
  | _ => none
@[simp] def gGt : List D → Option D
  | [.int i, .int j] => some (.bool (decide (j < i)))
  | [.str i, .str j] => some (.bool (decide (j.cps.toList < i.cps.toList)))
  | _ => none
@[simp] def gGe : List D → Option D
  | [.int i, .int j] => some (.bool (decide (j ≤ i)))
  | [.str i, .str j] => some (.bool (!decide (i.cps.toList < j.cps.toList)))
  | _ => none
theorem vok_S {p : Str → Str → Bool} {i j : Str} : VOk S.K (l2 fun x y H Q => ∃ i j, x = .str i ∧ y = .str j ∧ Q (.bl (p i j)) H) [.str i, .str j] (.bool (p i j)) := fun H vs F Q r k => by
  obtain ⟨v, w, _, _, rfl, r1, r2⟩ := r.i2
  exact ⟨i, j, r1.iStr, r2.iStr, k _ H [] (.same (.bl _))⟩
theorem co_lt : CmpOk S .Lt gLt := ⟨⟨_, fun _ _ => op_lt⟩, fun ds dz h => by
  unfold gLt at h
  split at h
  · cases h; exact ⟨_, fun _ _ => op_lt, vok_I0 fun _ => .bl _⟩
  · cases h; exact ⟨_, fun _ _ => op_lt_str, vok_S (p := fun i j => decide (i.cps.toList < j.cps.toList))⟩
  · cases h⟩
theorem co_le : CmpOk S .LtE gLe := ⟨⟨_, fun _ _ => op_le⟩, fun ds dz h => by
  unfold gLe at h
  split at h
  · cases h; exact ⟨_, fun _ _ => op_le, vok_I0 fun _ => .bl _⟩
  · cases h; exact ⟨_, fun _ _ => op_le_str, vok_S (p := fun i j => !decide (j.cps.toList < i.cps.toList))⟩
  · cases h⟩
theorem co_gt : CmpOk S .Gt gGt := ⟨⟨_, fun _ _ => op_gt⟩, fun ds dz h => by
  unfold gGt at h
  split at h
  · cases h; exact ⟨_, fun _ _ => op_gt, vok_I0 fun _ => .bl _⟩
  · cases h; exact ⟨_, fun _ _ => op_gt_str, vok_S (p := fun i j => decide (j.cps.toList < i.cps.toList))⟩
  · cases h⟩
theorem co_ge : CmpOk S .GtE gGe := ⟨⟨_, fun _ _ => op_ge⟩, fun ds dz h => by
  unfold gGe at h
  split at h
  · cases h; exact ⟨_, fun _ _ => op_ge, vok_I0 fun _ => .bl _⟩
  · cases h; exact ⟨_, fun _ _ => op_ge_str, vok_S (p := fun i j => !decide (i.cps.toList < j.cps.toList))⟩
  · cases h⟩
/-- x is None -/
@[simp] def isN : D → Bool
  | .none => true
  | _ => false
theorem isN_V {K : PySem.W.Frag} {H : Hp} {v : V} {d : D} {F : List Addr} (r : Rep K H v d F) : decide (v = .non) = isN d := by
  cases r <;> simp [isN]
theorem de_isN (hA : DA S [a] κs M f) {j pos'} : DE S (.Compare a [.Is] [.Constant .none j pos'] pos) .own M (cV f fun ds => match ds with | [d] => some (.bool (isN d)) | _ => none) := by
  have g : ∀ X, Fits S X → PE X (.Compare a [.Is] [.Constant .none j pos'] pos) (fun σ H Q => tBA S [a] σ H fun vs H1 => l1 (fun x H Q => V.non = .non ∧ Q (.bl (decide (x = .non))) H) vs H1 Q) := fun X hX => pe_cmpR op_isN (pe_tB hX) pe_non (nomark _)
  refine de_v hA ⟨_, g⟩ fun ds dz h => ?_
  split at h
  · cases h
    refine ⟨_, g, fun H vs F Q r k => ?_⟩
    obtain ⟨v, _, rfl, r1⟩ := r.i1
    exact ⟨rfl, k _ H [] (.same (by rw [isN_V r1]; exact .bl _))⟩
  · cases h
theorem de_notN (hA : DA S [a] κs M f) {j pos'} : DE S (.Compare a [.IsNot] [.Constant .none j pos'] pos) .own M (cV f fun ds => match ds with | [d] => some (.bool (!isN d)) | _ => none) := by
  have g : ∀ X, Fits S X → PE X (.Compare a [.IsNot] [.Constant .none j pos'] pos) (fun σ H Q => tBA S [a] σ H fun vs H1 => l1 (fun x H Q => V.non = .non ∧ Q (.bl (!decide (x = .non))) H) vs H1 Q) := fun X hX => pe_cmpR op_notN (pe_tB hX) pe_non (nomark _)
  refine de_v hA ⟨_, g⟩ fun ds dz h => ?_
  split at h
  · cases h
    refine ⟨_, g, fun H vs F Q r k => ?_⟩
    obtain ⟨v, _, rfl, r1⟩ := r.i1
    exact ⟨rfl, k _ H [] (.same (by rw [isN_V r1]; exact .bl _))⟩
  · cases h
end
/-! ### x in c -/
def flatD : D → Bool
  | .none | .bool _ | .int _ | .str _ => true
  | _ => false
theorem flat_V {K : PySem.W.Frag} {H : Hp} {v : V} {d : D} {F : List Addr} (r : Rep K H v d F) (h : flatD d = true) : flatV v = true := by
  cases r <;> first | rfl | (cases h)
theorem flats_V {K : PySem.W.Frag} {H : Hp} : ∀ {vs : List V} {ds : List D} {F : List Addr}, Reps K H vs ds F → ds.all flatD = true → vs.all flatV = true
  | _, _, _, .nil, _ => rfl
  | _, _, _, .cons r t, h => by
    rw [List.all_cons, Bool.and_eq_true] at h ⊢
    exact ⟨flat_V r h.1, flats_V t h.2⟩
theorem eqV_D {K : PySem.W.Frag} {H : Hp} {v w : V} {d e : D} {F G : List Addr} (r : Rep K H v d F) (s : Rep K H w e G) (h : flatD d = true) (h' : flatD e = true) : eqV v w = PyData.eqv d e := by
  cases r <;> first | (cases h; done) | (cases s <;> first | (cases h'; done) | (simp [eqV, PyData.eqv]))
theorem inV_D {K : PySem.W.Frag} {H : Hp} {w : V} {e : D} {G : List Addr} (s : Rep K H w e G) (h' : flatD e = true) : ∀ {vs : List V} {ds : List D} {F : List Addr}, Reps K H vs ds F → ds.all flatD = true → inV w vs = ds.any fun z => PyData.eqv z e
  | _, _, _, .nil, _ => rfl
  | _, _, _, .cons r t, h => by
    rw [List.all_cons, Bool.and_eq_true] at h
    have ih := inV_D s h' t h.2
    unfold inV at ih ⊢
    rw [List.any_cons, List.any_cons, eqV_D r s h.1 h', ih]
def rInT (K : PySem.W.Frag) (n : Bool → Bool) : R2 := fun x y H Q => ∃ d ds, Dp K H x d ∧ Dp K H y (.tuple ds) ∧ SeqAt.shaped d = true ∧ SeqAt.shaped (.tuple ds) = true ∧ Q (.bl (n (ds.any fun z => PyData.eqv z d))) H
theorem room_in_shapedT {A : Around} {d : PyData} {ds : List PyData} (h : SeqAt.shaped d = true) (hu : A.units + 65 < cLine) : A.units + 1 + min (PyData.depthAll ds) d.depth < cLine := by
  have := SeqAt.depth_of_shaped h
  have := Nat.min_le_right (PyData.depthAll ds) d.depth
  omega
theorem op_inT {X : Cx} (hu : X.A.units + 65 < cLine) : OpR X (compareOp .In) (rInT X.K id) := by
  intro pins s σ H x y v u Q I rx ry h
  obtain ⟨d, ds, hd, he, sd, se, q⟩ := h
  obtain ⟨as, r1⟩ := Dp.reads I d x v hd rx
  obtain ⟨bs, r2⟩ := Dp.reads I (.tuple ds) y u he ry
  exact SeqAt.in_tuple_reads r2 r1 (by have := SeqAt.canLay_of_shaped se; rw [PyData.canLay0] at this; exact this) (SeqAt.canLay_of_shaped sd) (room_in_shapedT sd hu) ⟨.bl _, H, I, rfl, q⟩
theorem op_notInT {X : Cx} (hu : X.A.units + 65 < cLine) : OpR X (compareOp .NotIn) (rInT X.K not) := by
  intro pins s σ H x y v u Q I rx ry h
  obtain ⟨d, ds, hd, he, sd, se, q⟩ := h
  obtain ⟨as, r1⟩ := Dp.reads I d x v hd rx
  obtain ⟨bs, r2⟩ := Dp.reads I (.tuple ds) y u he ry
  exact SeqAt.notIn_tuple_reads r2 r1 (by have := SeqAt.canLay_of_shaped se; rw [PyData.canLay0] at this; exact this) (SeqAt.canLay_of_shaped sd) (room_in_shapedT sd hu) ⟨.bl _, H, I, rfl, q⟩
/-- x in c: one sign in a text, a value in a list or a tuple -/
def inD : D → D → Option Bool
  | .str x, .str y => match x.cps.toList with
    | [c] => some (decide (c ∈ y.cps.toList))
    | _ => some (!(Builtin.Str.occurrences y x 0 y.length 1).isEmpty)
  | d, .list ds => if flatD d = true ∧ ds.all flatD = true then some (ds.any fun z => PyData.eqv z d) else if SeqAt.shaped d = true ∧ SeqAt.shaped (.list ds) = true then some (ds.any fun z => PyData.eqv z d) else none
  | d, .tuple ds => if flatD d = true ∧ ds.all flatD = true then some (ds.any fun z => PyData.eqv z d) else if SeqAt.shaped d = true ∧ SeqAt.shaped (.tuple ds) = true then some (ds.any fun z => PyData.eqv z d) else none
  | _, _ => none
theorem in_rule {op : CmpOp} {n : Bool → Bool} {neg : Bool} (hn : ∀ b, (if neg then !b else b) = n b)
    (h1 : ∀ X, OpR X (compareOp op) (fun x y H Q => ∃ (c : Nat) (z : Str), x = .str ⟨#[c]⟩ ∧ y = .str z ∧ Q (.bl (n (decide (c ∈ z.cps.toList)))) H))
    (h2 : ∀ X, OpR X (compareOp op) (fun x y H Q => ∃ i j, x = .str i ∧ y = .str j ∧ Q (.bl (n (!(Builtin.Str.occurrences j i 0 j.length 1).isEmpty))) H))
    (h3 : ∀ X : Cx, OpR X (compareOp op) (rIn X.K neg))
    (h4 : ∀ X : Cx, X.A.units + 65 < cLine → OpR X (compareOp op) (fun x y H Q => ∃ d ds, Dp X.K H x d ∧ Dp X.K H y (.list ds) ∧ SeqAt.shaped d = true ∧ SeqAt.shaped (.list ds) = true ∧ Q (.bl (n (ds.any fun z => PyData.eqv z d))) H))
    (h5 : ∀ X : Cx, X.A.units + 65 < cLine → OpR X (compareOp op) (rInT X.K n))
    {d e : D} {b : Bool} (h : inD d e = some b) : ∃ r : R2, (∀ X, Fits S X → OpR X (compareOp op) r) ∧ VOk S.K (l2 r) [d, e] (.bool (n b)) := by
  unfold inD at h
  split at h
  · rename_i x y
    split at h
    · rename_i c hc
      cases h
      refine ⟨_, fun X _ => h1 X, fun H vs F Q r k => ?_⟩
      obtain ⟨v, w, _, _, rfl, r1, r2⟩ := r.i2
      have e : x = ⟨#[c]⟩ := by
        obtain ⟨⟨l⟩⟩ := x
        simp only at hc
        rw [hc]
      subst e
      exact ⟨c, y, r1.iStr, r2.iStr, k _ H [] (.same (.bl _))⟩
    · cases h
      refine ⟨_, fun X _ => h2 X, fun H vs F Q r k => ?_⟩
      obtain ⟨v, w, _, _, rfl, r1, r2⟩ := r.i2
      exact ⟨x, y, r1.iStr, r2.iStr, k _ H [] (.same (.bl _))⟩
  · rename_i ds _
    split at h
    · rename_i hf
      cases h
      refine ⟨rIn S.K neg, fun X hX => (by rw [← hX.K]; exact h3 X), fun H vs F Q r k => ?_⟩
      obtain ⟨v, w, _, _, rfl, r1, r2⟩ := r.i2
      obtain ⟨p, ws, G, rfl, hp, s, _⟩ := r2.iLst
      refine ⟨p, ws, rfl, .inl (sqL_of hp), flat_V r1 hf.1, flats_V s hf.2, ?_⟩
      rw [inV_D r1 hf.1 s hf.2, hn]
      exact k _ H [] (.same (.bl _))
    · split at h
      · rename_i hs
        cases h
        refine ⟨fun x y H Q => ∃ d ds, Dp S.K H x d ∧ Dp S.K H y (.list ds) ∧ SeqAt.shaped d = true ∧ SeqAt.shaped (.list ds) = true ∧ Q (.bl (n (ds.any fun z => PyData.eqv z d))) H, fun X hX => (by rw [← hX.K]; exact h4 X hX.u65), fun H vs F Q r k => ?_⟩
        obtain ⟨v, w, _, _, rfl, r1, r2⟩ := r.i2
        exact ⟨_, _, r1.dp (shaped_lay hs.1), r2.dp (shaped_lay hs.2), hs.1, hs.2, k _ H [] (.same (.bl _))⟩
      · cases h
  · rename_i ds _
    split at h
    · rename_i hf
      cases h
      refine ⟨rIn S.K neg, fun X hX => (by rw [← hX.K]; exact h3 X), fun H vs F Q r k => ?_⟩
      obtain ⟨v, w, _, _, rfl, r1, r2⟩ := r.i2
      obtain ⟨p, ws, rfl, hp, s⟩ := r2.iTup
      refine ⟨p, ws, rfl, .inr hp, flat_V r1 hf.1, flats_V s hf.2, ?_⟩
      rw [inV_D r1 hf.1 s hf.2, hn]
      exact k _ H [] (.same (.bl _))
    · split at h
      · rename_i hs
        cases h
        refine ⟨rInT S.K n, fun X hX => (by rw [← hX.K]; exact h5 X hX.u65), fun H vs F Q r k => ?_⟩
        obtain ⟨v, w, _, _, rfl, r1, r2⟩ := r.i2
        exact ⟨_, _, r1.dp (shaped_lay hs.1), r2.dp (shaped_lay hs.2), hs.1, hs.2, k _ H [] (.same (.bl _))⟩
      · cases h
  · cases h
@[simp] def gIn : List D → Option D
  | [d, e] => (inD d e).map .bool
  | _ => none
@[simp] def gNin : List D → Option D
  | [d, e] => (inD d e).map fun b => .bool (!b)
  | _ => none
section
variable {a b : Expr} {pos : Pos} {κs : List Kd} {M : List Nat} {f : EM (List D)}
theorem co_in : CmpOk S .In gIn := ⟨⟨_, fun _ _ => op_in_str⟩, fun ds dz h => by
  unfold gIn at h
  split at h
  · rename_i d e
    cases q : inD d e with
    | none => rw [q] at h; cases h
    | some x =>
      rw [q] at h
      cases h
      obtain ⟨r, h1, h2⟩ := in_rule (S := S) (n := id) (neg := false) (fun _ => rfl) (fun _ => op_in_sign) (fun _ => op_in_str) (fun _ => op_in_seq) (fun _ hu => op_inD hu) (fun _ hu => op_inT hu) q
      exact ⟨_, h1, h2⟩
  · cases h⟩
theorem co_nin : CmpOk S .NotIn gNin := ⟨⟨_, fun _ _ => op_notIn_str⟩, fun ds dz h => by
  unfold gNin at h
  split at h
  · rename_i d e
    cases q : inD d e with
    | none => rw [q] at h; cases h
    | some x =>
      rw [q] at h
      cases h
      obtain ⟨r, h1, h2⟩ := in_rule (S := S) (n := not) (neg := true) (fun _ => rfl) (fun _ => op_notIn_sign) (fun _ => op_notIn_str) (fun _ => op_notIn_seq) (fun _ hu => op_notInD hu) (fun _ hu => op_notInT hu) q
      exact ⟨_, h1, h2⟩
  · cases h⟩
end
end DL
set_option maxHeartbeats 1000000
/-! DL5: subscripts, slices, built-ins, tests. -/
namespace DL
open PySem PySem.Spec PyProof.Rows L2
variable {S : Sig}
/-! ### subscripts -/
@[simp] def ixD : D → D → Option D
  | .list ds, .int i => atI ds i
  | .tuple ds, .int i => atI ds i
  | .str z, .int i => if z.length ≤ 1000000 then (atI z.cps.toList i).map fun c => .str ⟨#[c]⟩ else none
  | _, _ => none
@[simp] def gIx : List D → Option D
  | [d, e] => match ixD d e with
    | some x => if imm x = true then some x else none
    | none => none
  | _ => none
theorem ixN_len {n m : Nat} {i : Int} (h : n = m) : ixN n i = ixN m i := by rw [h]
theorem atI_rep {K : PySem.W.Frag} {H : Hp} {vs : List V} {ds : List D} {F : List Addr} {i : Int} {d : D} (r : Reps K H vs ds F) (h : atI ds i = some d) : ∃ v G, atI vs i = some v ∧ Rep K H v d G ∧ ∀ a ∈ G, a ∈ F := by
  unfold atI at h ⊢
  rw [r.length]
  cases e : ixN ds.length i with
  | none => rw [e] at h; cases h
  | some j =>
    rw [e] at h
    exact r.get h
theorem lst_read {K : PySem.W.Frag} {H : Hp} {v : V} {ds : List D} {F : List Addr} (r : Rep K H v (.list ds) F) : ∃ a vs G, v = .ref a ∧ SqL K H a vs ∧ Reps K H vs ds G := by
  obtain ⟨a, vs, G, h1, h2, h3, _⟩ := r.iLst
  exact ⟨a, vs, G, h1, sqL_of h2, h3⟩
section
variable {a b : Expr} {pos : Pos} {κs : List Kd} {M : List Nat} {f : EM (List D)}
theorem de_ix (hA : DA S [a, b] κs M f) (hs : PlainIx b) : DE S (.Subscript a b pos) .own M (cV f gIx) := de_v hA ⟨_, f_ix (fun X hX => (ix_str : IxR X rIxS)) hs⟩ fun ds dz h => by
  unfold gIx at h
  split at h
  · rename_i d e
    cases q : ixD d e with
    | none => rw [q] at h; cases h
    | some x =>
      rw [q] at h
      simp only at h
      split at h
      · rename_i hi
        cases h
        unfold ixD at q
        split at q
        · refine ⟨_, f_ix (r := rIxL S.K) (fun X hX => by rw [← hX.K]; exact ix_list) hs, fun H vs F Q r k => ?_⟩
          obtain ⟨v, w, _, _, rfl, r1, r2⟩ := r.i2
          obtain ⟨p, vs, G, rfl, hp, s⟩ := lst_read r1
          obtain ⟨z, G', hz, rz, _⟩ := atI_rep s q
          exact ⟨p, vs, _, z, rfl, r2.iInt, hp, hz, k _ H [] (.same (rz.imm' hi))⟩
        · refine ⟨_, f_ix (r := rIxT S.K) (fun X hX => by rw [← hX.K]; exact ix_tup) hs, fun H vs F Q r k => ?_⟩
          obtain ⟨v, w, _, _, rfl, r1, r2⟩ := r.i2
          obtain ⟨p, vs, rfl, hp, s⟩ := r1.iTup
          obtain ⟨z, G', hz, rz, _⟩ := atI_rep s q
          exact ⟨p, vs, _, z, rfl, r2.iInt, hp, hz, k _ H [] (.same (rz.imm' hi))⟩
        · rename_i z i
          split at q
          · rename_i hl
            refine ⟨_, f_ix (fun X hX => ix_str) hs, fun H vs F Q r k => ?_⟩
            obtain ⟨v, w, _, _, rfl, r1, r2⟩ := r.i2
            cases e : atI z.cps.toList i with
            | none => rw [e] at q; cases q
            | some c =>
              rw [e] at q
              cases q
              exact ⟨z, i, c, r1.iStr, r2.iInt, lim_line hl, e, k _ H [] (.same (.str _))⟩
          · cases q
        · cases q
      · cases h
  · cases h
/-- where a thing stands within a slot's -/
def within : Kd → List Nat
  | .sl i => [i]
  | .bor B => B
  | .own => []
theorem Opn.within {K : PySem.W.Frag} {H : Hp} {σ : L2.St} {δ : DEnv} {Fs : FT} {F : List Addr} {κ : Kd} {v : V} {d : D} (E : EnvR K H σ δ Fs) (h : Opn K H σ δ Fs F κ v d) (hn : κ ≠ .own) : F = [] ∧ ∃ G, Rep K H v d G ∧ ∀ a ∈ G, InM (DL.within κ) Fs a := by
  cases κ with
  | own => exact absurd rfl hn
  | bor B => exact h
  | sl i =>
    obtain ⟨h0, h1, h2⟩ := h
    obtain ⟨w, e, r⟩ := E.at i d h2
    rw [h1] at e
    cases e
    exact ⟨h0, Fs i, r, fun a m => ⟨i, List.mem_cons_self, m⟩⟩
theorem op2 {K : PySem.W.Frag} {H : Hp} {σ : L2.St} {δ : DEnv} {Fs : FT} {κ1 κ2 : Kd} {vs : List V} {ds : List D} {Gs : List (List Addr)} (h : OpnL K H σ δ Fs [κ1, κ2] vs ds Gs) : ∃ v w d e F G, vs = [v, w] ∧ ds = [d, e] ∧ Gs = [F, G] ∧ Opn K H σ δ Fs F κ1 v d ∧ Opn K H σ δ Fs G κ2 w e := by
  cases h with
  | cons h1 t =>
    cases t with
    | cons h2 t =>
      cases t
      exact ⟨_, _, _, _, _, _, rfl, rfl, rfl, h1, h2⟩
/-- a[b], an object within a slot's list or tuple, to be read -/
@[simp] def gIxB : List D → Option D
  | [.list ds, .int i] => atI ds i
  | [.tuple ds, .int i] => atI ds i
  | _ => none
theorem de_ixB {κ1 κ2 : Kd} (hA : DA S [a, b] [κ1, κ2] M f) (hs : PlainIx b) (h1 : κ1 ≠ .own) : DE S (.Subscript a b pos) (.bor (within κ1)) M (cV f gIxB) := fun σ H δ Fs Q r E s hf k => by
  have post0 : ∀ {H1 : Hp} {δ1 : DEnv} {Fs1 : FT} {Fr : List Addr}, Post S.K M H δ Fs σ H1 δ1 Fs1 Fr → Post S.K M H δ Fs σ H1 δ1 Fs1 [] := fun p => ⟨p.env, p.sep0, fun _ m => (nomatch m), p.sub, fun _ m => (nomatch m), p.keep, p.same⟩
  rcases bind_some hf with ⟨ds, δ1, h2, h3⟩ | ⟨x, h2, rfl⟩
  · cases q : gIxB ds with
    | none => rw [q] at h3; cases h3
    | some x =>
      rw [q] at h3
      cases h3
      unfold gIxB at q
      split at q
      · refine ⟨_, f_ix (r := rIxL S.K) (fun X hX => by rw [← hX.K]; exact ix_list) hs, hA σ H δ Fs _ _ E s h2 fun vs H1 Fs1 Frs p o => ?_⟩
        obtain ⟨v, w, d, e, F1, F2, rfl, hd, rfl, o1, o2⟩ := op2 o
        cases hd
        obtain ⟨h0, G, r1, hw⟩ := o1.within p.env h1
        obtain ⟨G2, r2⟩ := o2.rep p.env
        obtain ⟨pa, vs, G', rfl, hp, s', rfl⟩ := r1.iLst
        obtain ⟨z, G3, hz, rz, hsub⟩ := atI_rep s' q
        exact ⟨pa, vs, _, z, rfl, r2.iInt, sqL_of hp, hz, k _ H1 Fs1 [] (post0 p) ⟨rfl, G3, rz, fun a m => hw a (List.mem_cons_of_mem _ (hsub a m))⟩⟩
      · refine ⟨_, f_ix (r := rIxT S.K) (fun X hX => by rw [← hX.K]; exact ix_tup) hs, hA σ H δ Fs _ _ E s h2 fun vs H1 Fs1 Frs p o => ?_⟩
        obtain ⟨v, w, d, e, F1, F2, rfl, hd, rfl, o1, o2⟩ := op2 o
        cases hd
        obtain ⟨h0, G, r1, hw⟩ := o1.within p.env h1
        obtain ⟨G2, r2⟩ := o2.rep p.env
        obtain ⟨pa, vs, rfl, hp, s'⟩ := r1.iTup
        obtain ⟨z, G3, hz, rz, hsub⟩ := atI_rep s' q
        exact ⟨pa, vs, _, z, rfl, r2.iInt, hp, hz, k _ H1 Fs1 [] (post0 p) ⟨rfl, G3, rz, fun a m => hw a (hsub a m)⟩⟩
      · cases q
  · exact ⟨_, f_ix (r := rIxL S.K) (fun X hX => by rw [← hX.K]; exact ix_list) hs, hA σ H δ Fs _ _ E s h2 k⟩
/-! ### len -/
theorem c_len {X : Cx} (h : Fits S X) : CallR X (.builtin "len") (fun xs H Q => ∃ x n, xs = [x] ∧ LenV S.K x H n ∧ Q (.int n) H) := by
  have e := call_len (X := X)
  rw [h.K] at e
  exact e
@[simp] def lenD : D → Option Nat
  | .str z => if z.length ≤ 1000000 then some z.length else none
  | .list ds => some ds.length
  | .tuple ds => some ds.length
  | _ => none
@[simp] def gLen : List D → Option D
  | [d] => (lenD d).map fun n => .int n
  | _ => none
theorem len_V {K : PySem.W.Frag} {H : Hp} {v : V} {d : D} {F : List Addr} {n : Nat} (r : Rep K H v d F) (h : lenD d = some n) : LenV K v H n := by
  unfold lenD at h
  split at h
  · split at h
    · rename_i hl
      cases h
      rw [r.iStr]
      exact ⟨lim_line hl, rfl⟩
    · cases h
  · cases h
    obtain ⟨a, vs, G, rfl, hp, s⟩ := lst_read r
    exact .inl ⟨vs, hp, s.length.symm⟩
  · cases h
    obtain ⟨a, vs, rfl, hp, s⟩ := r.iTup
    exact .inr ⟨vs, hp, s.length.symm⟩
  · cases h
theorem de_len {p : Pos} (n : BtS S "len") (hA : DA S [a] κs M f) (hp : Plain [a]) : DE S (.Call (.Name "len" p) [a] [] pos) .own M (cV f gLen) :=
  de_v hA ⟨_, f_callB n (fun _ h => c_len h) PySem.boot_len hp⟩ fun ds dz h => by
    unfold gLen at h
    split at h
    · rename_i d
      cases q : lenD d with
      | none => rw [q] at h; cases h
      | some m =>
        rw [q] at h
        cases h
        refine ⟨_, f_callB n (fun _ h => c_len h) PySem.boot_len hp, fun H vs F Q r k => ?_⟩
        obtain ⟨v, _, rfl, r1⟩ := r.i1
        exact ⟨v, m, rfl, len_V r1 q, k _ H [] (.same (.int _))⟩
    · cases h
/-! ### abs, max, min, int, list, tuple -/
@[simp] def gAbs : List D → Option D
  | [.int i] => some (.int (if i < 0 then -i else i))
  | _ => none
theorem de_abs {p : Pos} (n : BtS S "abs") (hA : DA S [a] κs M f) (hp : Plain [a]) : DE S (.Call (.Name "abs" p) [a] [] pos) .own M (cV f gAbs) :=
  de_v hA ⟨_, f_callB n (fun _ _ => call_abs) (by decide +kernel) hp⟩ fun ds dz h => by
    unfold gAbs at h
    split at h
    · cases h
      refine ⟨_, f_callB n (fun _ _ => call_abs) (by decide +kernel) hp, fun H vs F Q r k => ?_⟩
      obtain ⟨v, _, rfl, r1⟩ := r.i1
      exact ⟨_, by rw [r1.iInt], k _ H [] (.same (.int _))⟩
    · cases h
@[simp] def gMax2 : List D → Option D
  | [.int i, .int j] => some (.int (if j > i then j else i))
  | _ => none
@[simp] def gMin2 : List D → Option D
  | [.int i, .int j] => some (.int (if j < i then j else i))
  | _ => none
theorem de_max2 {p : Pos} (n : BtS S "max") (hA : DA S [a, b] κs M f) (hp : Plain [a, b]) : DE S (.Call (.Name "max" p) [a, b] [] pos) .own M (cV f gMax2) :=
  de_v hA ⟨_, f_callB n (fun _ h => call_max2 h.calm) (by decide +kernel) hp⟩ fun ds dz h => by
    unfold gMax2 at h
    split at h
    · cases h
      refine ⟨_, f_callB n (fun _ h => call_max2 h.calm) (by decide +kernel) hp, fun H vs F Q r k => ?_⟩
      obtain ⟨v, w, _, _, rfl, r1, r2⟩ := r.i2
      exact ⟨_, _, by rw [r1.iInt, r2.iInt], k _ H [] (.same (.int _))⟩
    · cases h
theorem de_min2 {p : Pos} (n : BtS S "min") (hA : DA S [a, b] κs M f) (hp : Plain [a, b]) : DE S (.Call (.Name "min" p) [a, b] [] pos) .own M (cV f gMin2) :=
  de_v hA ⟨_, f_callB n (fun _ h => call_min2 h.calm) (by decide +kernel) hp⟩ fun ds dz h => by
    unfold gMin2 at h
    split at h
    · cases h
      refine ⟨_, f_callB n (fun _ h => call_min2 h.calm) (by decide +kernel) hp, fun H vs F Q r k => ?_⟩
      obtain ⟨v, w, _, _, rfl, r1, r2⟩ := r.i2
      exact ⟨_, _, by rw [r1.iInt, r2.iInt], k _ H [] (.same (.int _))⟩
    · cases h
@[simp] def gInt : List D → Option D
  | [.int i] => some (.int i)
  | [.bool b] => some (.int (if b then 1 else 0))
  | _ => none
theorem de_intC {p : Pos} (n : BtS S "int") (hA : DA S [a] κs M f) (hp : Plain [a]) : DE S (.Call (.Name "int" p) [a] [] pos) .own M (cV f gInt) :=
  de_v hA ⟨_, f_callTy n (fun _ _ => call_int1) (by decide +kernel) hp⟩ fun ds dz h => by
    unfold gInt at h
    split at h
    · cases h
      refine ⟨_, f_callTy n (fun _ _ => call_int1) (by decide +kernel) hp, fun H vs F Q r k => ?_⟩
      obtain ⟨v, _, rfl, r1⟩ := r.i1
      exact .inl ⟨_, by rw [r1.iInt], k _ H [] (.same (.int _))⟩
    · cases h
      refine ⟨_, f_callTy n (fun _ _ => call_int1) (by decide +kernel) hp, fun H vs F Q r k => ?_⟩
      obtain ⟨v, _, rfl, r1⟩ := r.i1
      exact .inr ⟨_, by rw [r1.iBl], k _ H [] (.same (.int _))⟩
    · cases h
/-- list(x), tuple(x) of a list or a tuple of things that don't change -/
@[simp] def gList : List D → Option D
  | [.list ds] => if imms ds = true then some (.list ds) else none
  | [.tuple ds] => if imms ds = true then some (.list ds) else none
  | _ => none
@[simp] def gTuple : List D → Option D
  | [.list ds] => if imms ds = true then some (.tuple ds) else none
  | [.tuple ds] => if imms ds = true then some (.tuple ds) else none
  | _ => none
theorem de_listC {p : Pos} (n : BtS S "list") (hA : DA S [a] κs M f) (hp : Plain [a]) : DE S (.Call (.Name "list" p) [a] [] pos) .own M (cV f gList) := by
  have g : ∀ X, Fits S X → PE X (.Call (.Name "list" p) [a] [] pos) (fun σ H Q => tBA S [a] σ H fun vs H1 => (fun xs H Q => ∃ p ys, xs = [V.ref p] ∧ (SqL S.K H p ys ∨ SqT S.K H p ys) ∧ ∀ l, H l = none → Q (.ref l) (upd H l (.lst ys))) vs H1 Q) :=
    f_callTy n (fun X h => by have e := call_list_of (X := X); rw [h.K] at e; exact e) (by decide +kernel) hp
  refine de_v hA ⟨_, g⟩ fun ds dz h => ?_
  unfold gList at h
  split at h
  · split at h
    · rename_i hi
      cases h
      refine ⟨_, g, fun H vs F Q r k => ?_⟩
      obtain ⟨v, _, rfl, r1⟩ := r.i1
      obtain ⟨q, ws, G, rfl, hq, s⟩ := lst_read r1
      exact ⟨q, ws, rfl, .inl hq, fun l hl => k _ _ _ (NewV.lst hl (s.imm' hi))⟩
    · cases h
  · split at h
    · rename_i hi
      cases h
      refine ⟨_, g, fun H vs F Q r k => ?_⟩
      obtain ⟨v, _, rfl, r1⟩ := r.i1
      obtain ⟨q, ws, rfl, hq, s⟩ := r1.iTup
      exact ⟨q, ws, rfl, .inr hq, fun l hl => k _ _ _ (NewV.lst hl (s.imm' hi))⟩
    · cases h
  · cases h
theorem de_tupleC {p : Pos} (n : BtS S "tuple") (hA : DA S [a] κs M f) (hp : Plain [a]) : DE S (.Call (.Name "tuple" p) [a] [] pos) .own M (cV f gTuple) := by
  have g : ∀ X, Fits S X → PE X (.Call (.Name "tuple" p) [a] [] pos) (fun σ H Q => tBA S [a] σ H fun vs H1 => (fun xs H Q => ∃ p ys, xs = [V.ref p] ∧ ((SqL S.K H p ys ∧ ∀ l, H l = none → Q (.ref l) (upd H l (.tup ys))) ∨ (SqT S.K H p ys ∧ Q (.ref p) H))) vs H1 Q) :=
    f_callTy n (fun X h => by have e := call_tuple_of (X := X); rw [h.K] at e; exact e) (by decide +kernel) hp
  refine de_v hA ⟨_, g⟩ fun ds dz h => ?_
  unfold gTuple at h
  split at h
  · split at h
    · rename_i hi
      cases h
      refine ⟨_, g, fun H vs F Q r k => ?_⟩
      obtain ⟨v, _, rfl, r1⟩ := r.i1
      obtain ⟨q, ws, G, rfl, hq, s⟩ := lst_read r1
      exact ⟨q, ws, rfl, .inl ⟨hq, fun l hl => k _ _ _ (NewV.tup hl (s.imm' hi))⟩⟩
    · cases h
  · split at h
    · rename_i hi
      cases h
      refine ⟨_, g, fun H vs F Q r k => ?_⟩
      obtain ⟨v, _, rfl, r1⟩ := r.i1
      have r2 := r1.imm' (by rw [imm_tup]; exact hi)
      obtain ⟨q, ws, rfl, hq, s⟩ := r2.iTup
      exact ⟨q, ws, rfl, .inr ⟨hq, k _ _ _ (.same r2)⟩⟩
    · cases h
  · cases h
/-! ### isinstance(x, T), T a built-in class -/
@[simp] def tyD : D → String
  | .none => "NoneType"
  | .bool _ => "bool"
  | .int _ => "int"
  | .str _ => "str"
  | .list _ => "list"
  | .tuple _ => "tuple"
  | .dict _ => "dict"
theorem ty_V {K : PySem.W.Frag} {H : Hp} {v : V} {d : D} {F : List Addr} (r : Rep K H v d F) : TyX K H v (.type (tyD d)) := by
  cases r with
  | non => exact .base .non
  | bl b => exact .base (.bl b)
  | int i => exact .base (.int i)
  | str x => exact .base (.str x)
  | lst h _ => exact .base (.lst h)
  | dK h _ _ => exact .base (.dK h)
  | dT h _ _ => exact .base (.dT h)
  | tup h _ =>
    rcases h with (h | ⟨o, h⟩) | ⟨o, its, n, h, c, _⟩
    · exact .base (.tup h)
    · exact .fTuple h
    · exact .kTuple h c
@[simp] def gIsi (T : String) : List D → Option D
  | [d] => (kitB (tyD d) T).map .bool
  | _ => none
theorem de_isi {p p' : Pos} {x : Str} {T : String} (n : BtS S "isinstance") (n2 : BtS S x) (hv : bootBuiltins x = some (.type T)) (hA : DA S [a] κs M f) (hp : Plain [a, .Name x p']) (hn : x ≠ "__name__" := by decide) (hdb : (x == ("__debug__" : Str)) = false := by decide) :
    DE S (.Call (.Name "isinstance" p) [a, .Name x p'] [] pos) .own M (cV f (gIsi T)) := by
  have g : ∀ X, Fits S X → PE X (.Call (.Name "isinstance" p) [a, .Name x p'] [] pos) (fun σ H Q => tBA S [a] σ H fun vs H1 => l1 (fun v H Q => rIsi S.K [v, .ty T] H Q) vs H1 Q) := fun X hX =>
    pe_callB (r := rIsi S.K) (by have e := call_isi (X := X); rw [hX.K] at e; exact e) (n.g hX) (n.m hX) (by decide +kernel) (pa_cons (pe_tB hX) (pa_cons (pe_bltn (v := .ty T) (n2.g hX) (n2.m hX) hv rfl hn hdb) pa_nil (hp.2.1 _)) (hp.1 _)) (by decide) (by decide) (hp.1 _) (plain_any hp.2)
  refine de_v hA ⟨_, g⟩ fun ds dz h => ?_
  unfold gIsi at h
  split at h
  · rename_i d
    cases q : kitB (tyD d) T with
    | none => rw [q] at h; cases h
    | some b =>
      rw [q] at h
      cases h
      refine ⟨_, g, fun H vs F Q r k => ?_⟩
      obtain ⟨v, _, rfl, r1⟩ := r.i1
      exact ⟨v, .ty T, _, _, b, rfl, .ty T, ty_V r1, kit_ty q, k _ H [] (.same (.bl _))⟩
  · cases h
end
end DL
set_option maxHeartbeats 1000000
/-! DL6: tests, and / or / not, conditional expressions, slices, methods of texts. -/
namespace DL
open PySem PySem.Spec PyProof.Rows L2
variable {S : Sig}
section
variable {a b c : Expr} {pos : Pos} {κ : Kd} {κs : List Kd} {M M1 M2 : List Nat} {f : EM (List D)}
theorem de_cmp {op : CmpOp} {g : List D → Option D} (h : CmpOk S op g) (hA : DA S [a, b] κs M f) (hm : behindInMarks op b = false) : DE S (.Compare a [op] [b] pos) .own M (cV f g) :=
  de_v hA (let ⟨_, h0⟩ := h.some_; ⟨_, f_cmp h0 hm⟩) fun ds dz e => let ⟨_, h1, h2⟩ := h.all_ ds dz e; ⟨_, f_cmp h1 hm, h2⟩
@[simp] def cBl (f : EM D) : EM Bool := EM.bind f fun d δ => match d with
  | .bool b => some (.ok b δ)
  | _ => none
theorem dt_cmp {op : CmpOp} {g : List D → Option D} (h : CmpOk S op g) (hA : DA S [a, b] κs M f) (hm : behindInMarks op b = false) : DT S (.Compare a [op] [b] pos) M (cBl (cV f g)) := fun σ H δ Fs Q r E s hf k => by
  obtain ⟨r0, h0⟩ := h.some_
  have ft : ∀ {r : R2}, (∀ X, Fits S X → OpR X (compareOp op) r) → ∀ X, Fits S X → PT X (.Compare a [op] [b] pos) (fun σ H Q => tBA S [a, b] σ H fun vs H1 => l2 r vs H1 fun x H' => ∃ k, x = .bl k ∧ Q k H') := fun h X hX => pt_cmpR (h X hX) (pe_tB hX) (pe_tB hX) hm
  rcases bind_some hf with ⟨d, δ1, h1, h2⟩ | ⟨x, h1, rfl⟩
  · cases d with
    | bool v =>
      cases h2
      rcases bind_some h1 with ⟨ds, δ2, h3, h4⟩ | ⟨x, h3, h4⟩
      · cases e2 : g ds with
        | none => rw [e2] at h4; cases h4
        | some dz =>
          rw [e2] at h4
          cases h4
          obtain ⟨r, hr, ok⟩ := h.all_ ds _ e2
          refine ⟨_, ft hr, hA σ H δ Fs _ _ E s h3 fun vs H1 Fs1 Frs p o => ?_⟩
          obtain ⟨F, rs⟩ := o.reps p.env
          refine ok H1 vs F _ rs fun z H2 Fz n => ?_
          have e := n.rep.iBl
          subst e
          have p2 := p.newv n
          have e0 : Fz = [] := by have := n.rep; cases this; rfl
          subst e0
          exact ⟨v, rfl, k H2 Fs1 p2⟩
      · cases h4
    | _ => cases h2
  · rcases bind_some h1 with ⟨ds, δ2, h3, h4⟩ | ⟨x', h3, h4⟩
    · cases e2 : g ds with
      | none => rw [e2] at h4; cases h4
      | some dz => rw [e2] at h4; cases h4
    · cases h4
      exact ⟨_, ft h0, hA σ H δ Fs _ _ E s h3 k⟩
/-- truth -/
@[simp] def trD : D → Option Bool
  | .none => some false
  | .bool b => some b
  | .int i => some (i != 0)
  | .str z => if z.length ≤ 1000000 then some ((z.length : Int) != 0) else none
  | .list ds => some (!ds.isEmpty)
  | .tuple ds => some (!ds.isEmpty)
  | .dict _ => none
theorem isEmpty_r {K : PySem.W.Frag} {H : Hp} {vs : List V} {ds : List D} {F : List Addr} (r : Reps K H vs ds F) : ds.isEmpty = vs.isEmpty := by
  cases r <;> rfl
theorem tr_V {K : PySem.W.Frag} {H : Hp} {v : V} {d : D} {F : List Addr} {b : Bool} (r : Rep K H v d F) (h : trD d = some b) : TruV K v H b := by
  unfold trD at h
  split at h
  · cases h; rw [r.iNon]; exact rfl
  · cases h; rw [r.iBl]; exact rfl
  · cases h; rw [r.iInt]; exact rfl
  · split at h
    · rename_i hl
      cases h; rw [r.iStr]; exact ⟨lim_line hl, rfl⟩
    · cases h
  · cases h
    obtain ⟨p, vs, G, rfl, hp, s⟩ := lst_read r
    exact .inl ⟨vs, hp, by rw [isEmpty_r s]⟩
  · cases h
    obtain ⟨p, vs, rfl, hp, s⟩ := r.iTup
    exact .inr (.inl ⟨vs, hp, by rw [isEmpty_r s]⟩)
  · cases h
@[simp] def cTr (f : EM D) : EM Bool := EM.bind f fun d δ => match trD d with
  | some b => some (.ok b δ)
  | none => none
theorem Post.dropR {K : PySem.W.Frag} {M : List Nat} {H H' : Hp} {δ δ' : DEnv} {Fs Fs' : FT} {σ' : L2.St} {Fr : List Addr} (p : Post K M H δ Fs σ' H' δ' Fs' Fr) : Post K M H δ Fs σ' H' δ' Fs' [] := ⟨p.env, p.sep0, fun _ m => (nomatch m), p.sub, fun _ m => (nomatch m), p.keep, p.same⟩
theorem dt_tr {e : Expr} {f : EM D} (h : DE S e κ M f) (he : ∀ env whole, isTrue e env whole = (do let v ← whole; standAt e.pos; holding [v] (truthy v))) : DT S e M (cTr f) := fun σ H δ Fs Q r E s hf k => by
  rcases bind_some hf with ⟨d, δ1, h1, h2⟩ | ⟨x, h1, rfl⟩
  · cases e2 : trD d with
    | none => rw [e2] at h2; cases h2
    | some b =>
      rw [e2] at h2
      cases h2
      obtain ⟨t, ht, q⟩ := h σ H δ Fs (fun x H' => ∃ k, TruV S.K x H' k ∧ Q k H') _ E s h1 fun v H1 Fs1 F p o => by
        obtain ⟨G, r⟩ := o.rep p.env
        exact ⟨b, tr_V r e2, k H1 Fs1 p.dropR⟩
      exact ⟨_, fun X hX => (by have := pt_truth (ht X hX) (he _); rw [hX.K] at this; exact this), q⟩
  · obtain ⟨t, ht, q⟩ := h σ H δ Fs (fun x H' => ∃ k, TruV S.K x H' k ∧ Q k H') _ E s h1 k
    exact ⟨_, fun X hX => (by have := pt_truth (ht X hX) (he _); rw [hX.K] at this; exact this), q⟩
@[simp] def cNot (f : EM Bool) : EM Bool := EM.bind f fun b δ => some (.ok (!b) δ)
@[simp] def cAnd (f g : EM Bool) : EM Bool := EM.bind f fun b δ => if b = true then g δ else some (.ok false δ)
@[simp] def cOr (f g : EM Bool) : EM Bool := EM.bind f fun b δ => if b = true then some (.ok true δ) else g δ
theorem dt_not {f : EM Bool} (h : DT S a M f) : DT S (.UnaryOp .Not a pos) M (cNot f) := fun σ H δ Fs Q r E s hf k => by
  rcases bind_some hf with ⟨d, δ1, h1, h2⟩ | ⟨x, h1, rfl⟩
  · cases h2
    obtain ⟨t, ht, q⟩ := h σ H δ Fs (fun c H1 => Q (!c) H1) _ E s h1 k
    exact ⟨_, fun X hX => pt_not (ht X hX), q⟩
  · obtain ⟨t, ht, q⟩ := h σ H δ Fs (fun c H1 => Q (!c) H1) _ E s h1 k
    exact ⟨_, fun X hX => pt_not (ht X hX), q⟩
/-- a chain of and, of or: its test, whatever stands around -/
def tBW (S : Sig) (e : Expr) : TT := fun σ H Q => ∃ t, (∀ X, Fits S X → PW X e t) ∧ t σ H Q
def DW (S : Sig) (e : Expr) (M : List Nat) (f : EM Bool) : Prop :=
  ∀ (σ : L2.St) (H : Hp) (δ : DEnv) (Fs : FT) (Q : Bool → Hp → Prop) (r : Out Bool), EnvR S.K H σ δ Fs → Sep Fs [] → f δ = some r →
    (match r with
      | .ok b δ' => ∀ H' Fs', Post S.K M H δ Fs σ H' δ' Fs' [] → Q b H'
      | .ex x => XOk S H Fs x) → tBW S e σ H Q
theorem pw_tB {X : Cx} {e : Expr} (h : Fits S X) : PW X e (tBW S e) := ⟨fun whole pins s σ H Q I ⟨t, ht, q⟩ => (ht X h).run whole pins s σ H Q I q⟩
theorem dt_w {e : Expr} {f : EM Bool} (h : DW S e M f) : DT S e M f := fun σ H δ Fs Q r E s hf k => let ⟨t, ht, q⟩ := h σ H δ Fs Q r E s hf k; ⟨t, fun X hX => (ht X hX).pt, q⟩
theorem dw_and1 {f : EM Bool} (h : DT S a M f) : DW S (.BoolOp .And [a] pos) M f := fun σ H δ Fs Q r E s hf k => let ⟨t, ht, q⟩ := h σ H δ Fs Q r E s hf k; ⟨t, fun X hX => pw_and1 (ht X hX), q⟩
theorem dw_or1 {f : EM Bool} (h : DT S a M f) : DW S (.BoolOp .Or [a] pos) M f := fun σ H δ Fs Q r E s hf k => let ⟨t, ht, q⟩ := h σ H δ Fs Q r E s hf k; ⟨t, fun X hX => pw_or1 (ht X hX), q⟩
theorem dw_and {rest : List Expr} {f g : EM Bool} (h : DT S a M1 f) (hr : DW S (.BoolOp .And (b :: rest) pos) M2 g) : DW S (.BoolOp .And (a :: b :: rest) pos) (M1 ++ M2) (cAnd f g) := fun σ H δ Fs Q r E s hf k => by
  refine ⟨_, fun X hX => pw_and (pt_tB hX) (pw_tB hX), ?_⟩
  show tBT S a σ H fun c H1 => if c = true then tBW S (.BoolOp .And (b :: rest) pos) σ H1 Q else Q false H1
  rcases bind_some hf with ⟨d, δ1, h1, h2⟩ | ⟨x, h1, rfl⟩
  · refine h σ H δ Fs _ _ E s h1 fun H1 Fs1 p => ?_
    cases d with
    | true =>
      rw [if_pos rfl] at h2
      refine iteT (hr σ H1 δ1 Fs1 Q r p.env p.sep h2 ?_)
      cases r with
      | ok c δ2 => exact fun H2 Fs2 p2 => k H2 Fs2 (p.comp p2)
      | ex x => exact XOk.post k p
    | false =>
      rw [if_neg Bool.false_ne_true] at h2
      cases h2
      exact iteF (k H1 Fs1 (p.mono fun i m => List.mem_append_left _ m))
  · exact h σ H δ Fs _ _ E s h1 k
theorem dw_or {rest : List Expr} {f g : EM Bool} (h : DT S a M1 f) (hr : DW S (.BoolOp .Or (b :: rest) pos) M2 g) : DW S (.BoolOp .Or (a :: b :: rest) pos) (M1 ++ M2) (cOr f g) := fun σ H δ Fs Q r E s hf k => by
  refine ⟨_, fun X hX => pw_or (pt_tB hX) (pw_tB hX), ?_⟩
  show tBT S a σ H fun c H1 => if c = true then Q true H1 else tBW S (.BoolOp .Or (b :: rest) pos) σ H1 Q
  rcases bind_some hf with ⟨d, δ1, h1, h2⟩ | ⟨x, h1, rfl⟩
  · refine h σ H δ Fs _ _ E s h1 fun H1 Fs1 p => ?_
    cases d with
    | true =>
      rw [if_pos rfl] at h2
      cases h2
      exact iteT (k H1 Fs1 (p.mono fun i m => List.mem_append_left _ m))
    | false =>
      rw [if_neg Bool.false_ne_true] at h2
      refine iteF (hr σ H1 δ1 Fs1 Q r p.env p.sep h2 ?_)
      cases r with
      | ok c δ2 => exact fun H2 Fs2 p2 => k H2 Fs2 (p.comp p2)
      | ex x => exact XOk.post k p
  · exact h σ H δ Fs _ _ E s h1 k
/-! as values -/
@[simp] def cOfB (f : EM Bool) : EM D := EM.bind f fun b δ => some (.ok (.bool b) δ)
theorem own_bl {K : PySem.W.Frag} {H : Hp} {σ : L2.St} {δ : DEnv} {Fs : FT} {v : V} {b : Bool} {F : List Addr} (E : EnvR K H σ δ Fs) (h : Opn K H σ δ Fs F κ v (.bool b)) : v = .bl b := by
  obtain ⟨G, r⟩ := h.rep E
  exact r.iBl
theorem de_not {f : EM D} (h : DE S a κ M f) : DE S (.UnaryOp .Not a pos) .own M (cOfB (cNot (cBl f))) := fun σ H δ Fs Q r E s hf k => by
  rcases bind_some hf with ⟨b, δ1, h1, h2⟩ | ⟨x, h1, rfl⟩
  · cases h2
    rcases bind_some h1 with ⟨b', δ2, h3, h4⟩ | ⟨x, _, h4⟩
    · cases h4
      rcases bind_some h3 with ⟨d, δ3, h5, h6⟩ | ⟨x, _, h6⟩
      · cases d with
        | bool v =>
          cases h6
          obtain ⟨t, ht, q⟩ := h σ H δ Fs (fun x H1 => ∃ c, x = .bl c ∧ Q (.bl (!c)) H1) _ E s h5 fun w H1 Fs1 F p o => ⟨_, own_bl p.env o, k _ H1 Fs1 [] p.dropR (Rep.bl _)⟩
          exact ⟨_, fun X hX => pe_not (ht X hX), q⟩
        | _ => cases h6
      · cases h6
    · cases h4
  · rcases bind_some h1 with ⟨b', δ2, h3, h4⟩ | ⟨x', h3, h4⟩
    · cases h4
    · cases h4
      rcases bind_some h3 with ⟨d, δ3, h5, h6⟩ | ⟨x'', h5, h6⟩
      · cases d <;> cases h6
      · cases h6
        obtain ⟨t, ht, q⟩ := h σ H δ Fs (fun x H1 => ∃ c, x = .bl c ∧ Q (.bl (!c)) H1) _ E s h5 k
        exact ⟨_, fun X hX => pe_not (ht X hX), q⟩
theorem de_b1 {op : BoolOp} {f : EM D} (h : DE S a κ M f) : DE S (.BoolOp op [a] pos) κ M f := fun σ H δ Fs Q r E s hf k => let ⟨t, ht, q⟩ := h σ H δ Fs Q r E s hf k; ⟨t, fun X hX => pe_one (ht X hX), q⟩
/-- a and b, a the True or False of f; b's own value else -/
@[simp] def cAndV (f : EM D) (g : EM D) : EM D := EM.bind f fun d δ => match d with
  | .bool true => g δ
  | .bool false => some (.ok (.bool false) δ)
  | _ => none
@[simp] def cOrV (f : EM D) (g : EM D) : EM D := EM.bind f fun d δ => match d with
  | .bool true => some (.ok (.bool true) δ)
  | .bool false => g δ
  | _ => none
theorem de_andV {rest : List Expr} {κ2 : Kd} {f g : EM D} (h : DE S a κ2 M1 f) (hr : DE S (.BoolOp .And (b :: rest) pos) .own M2 g) : DE S (.BoolOp .And (a :: b :: rest) pos) .own (M1 ++ M2) (cAndV f g) := fun σ H δ Fs Q r E s hf k => by
  refine ⟨_, fun X hX => pe_and (pe_tB hX) (pe_tB hX), ?_⟩
  show tB S a σ H fun x H1 => ∃ c, x = .bl c ∧ if c = true then tB S (.BoolOp .And (b :: rest) pos) σ H1 Q else Q (.bl false) H1
  rcases bind_some hf with ⟨d, δ1, h1, h2⟩ | ⟨x, h1, rfl⟩
  · refine h σ H δ Fs _ _ E s h1 fun v H1 Fs1 F p o => ?_
    cases d with
    | bool c =>
      refine ⟨c, own_bl p.env o, ?_⟩
      cases c with
      | true =>
        refine iteT (hr σ H1 δ1 Fs1 Q r p.env p.sep0 h2 ?_)
        cases r with
        | ok c δ2 => exact fun v H2 Fs2 F2 p2 o2 => k v H2 Fs2 F2 (p.dropR.comp p2) o2
        | ex x => exact XOk.post k p
      | false =>
        cases h2
        exact iteF (k _ H1 Fs1 [] (p.dropR.mono fun i m => List.mem_append_left _ m) (.bl _))
    | _ => cases h2
  · exact h σ H δ Fs _ _ E s h1 k
theorem de_orV {rest : List Expr} {κ2 : Kd} {f g : EM D} (h : DE S a κ2 M1 f) (hr : DE S (.BoolOp .Or (b :: rest) pos) .own M2 g) : DE S (.BoolOp .Or (a :: b :: rest) pos) .own (M1 ++ M2) (cOrV f g) := fun σ H δ Fs Q r E s hf k => by
  refine ⟨_, fun X hX => pe_or (pe_tB hX) (pe_tB hX), ?_⟩
  show tB S a σ H fun x H1 => ∃ c, x = .bl c ∧ if c = true then Q (.bl true) H1 else tB S (.BoolOp .Or (b :: rest) pos) σ H1 Q
  rcases bind_some hf with ⟨d, δ1, h1, h2⟩ | ⟨x, h1, rfl⟩
  · refine h σ H δ Fs _ _ E s h1 fun v H1 Fs1 F p o => ?_
    cases d with
    | bool c =>
      refine ⟨c, own_bl p.env o, ?_⟩
      cases c with
      | true =>
        cases h2
        exact iteT (k _ H1 Fs1 [] (p.dropR.mono fun i m => List.mem_append_left _ m) (.bl _))
      | false =>
        refine iteF (hr σ H1 δ1 Fs1 Q r p.env p.sep0 h2 ?_)
        cases r with
        | ok c δ2 => exact fun v H2 Fs2 F2 p2 o2 => k v H2 Fs2 F2 (p.dropR.comp p2) o2
        | ex x => exact XOk.post k p
    | _ => cases h2
  · exact h σ H δ Fs _ _ E s h1 k
/-- x if t else y -/
@[simp] def cIfE (t : EM Bool) (f g : EM D) : EM D := EM.bind t fun b δ => if b = true then f δ else g δ
theorem de_if {M3 : List Nat} {t : EM Bool} {f g : EM D} (ht : DT S a M1 t) (hf' : DE S b .own M2 f) (hg : DE S c .own M3 g) : DE S (.IfExp a b c pos) .own (M1 ++ (M2 ++ M3)) (cIfE t f g) := fun σ H δ Fs Q r E s hf k => by
  refine ⟨_, fun X hX => pe_ifExp (pt_tB hX) (pe_tB hX) (pe_tB hX), ?_⟩
  show tBT S a σ H fun x H1 => if x = true then tB S b σ H1 Q else tB S c σ H1 Q
  rcases bind_some hf with ⟨d, δ1, h1, h2⟩ | ⟨x, h1, rfl⟩
  · refine ht σ H δ Fs _ _ E s h1 fun H1 Fs1 p => ?_
    cases d with
    | true =>
      rw [if_pos rfl] at h2
      refine iteT (hf' σ H1 δ1 Fs1 Q r p.env p.sep h2 ?_)
      cases r with
      | ok c δ2 => exact fun v H2 Fs2 F2 p2 o2 => k v H2 Fs2 F2 (p.comp (p2.mono fun i m => List.mem_append_left _ m)) o2
      | ex x => exact XOk.post k p
    | false =>
      rw [if_neg Bool.false_ne_true] at h2
      refine iteF (hg σ H1 δ1 Fs1 Q r p.env p.sep h2 ?_)
      cases r with
      | ok c δ2 => exact fun v H2 Fs2 F2 p2 o2 => k v H2 Fs2 F2 (p.comp (p2.mono fun i m => List.mem_append_right _ m)) o2
      | ex x => exact XOk.post k p
  · exact ht σ H δ Fs _ _ E s h1 k
end
/-! ### slices -/
def cutD (xs : List D) (lo hi : Option Int) : List D := (xs.drop (HT.sIx xs.length 0 lo)).take (HT.sIx xs.length xs.length hi - HT.sIx xs.length 0 lo)
@[simp] def sliceD : D → Option Int → Option Int → Option D
  | .list ds, lo, hi => if imms ds = true then some (.list (cutD ds lo hi)) else none
  | .tuple ds, lo, hi => if imms ds = true then some (.tuple (cutD ds lo hi)) else none
  | .str z, lo, hi => if z.length ≤ 1000000 then some (.str (cutS z lo hi)) else none
  | _, _, _ => none
theorem Reps.takeI {K : PySem.W.Frag} {H : Hp} : ∀ {vs : List V} {ds : List D} (n : Nat), Reps K H vs ds [] → Reps K H (vs.take n) (ds.take n) []
  | _, _, 0, _ => .nil
  | _, _, n + 1, r => by
    generalize e : ([] : List Addr) = F at r
    cases r with
    | nil => rw [e]; exact .nil
    | @cons _ _ F _ _ G r t =>
      have e1 : F = [] ∧ G = [] := List.append_eq_nil_iff.mp e.symm
      obtain ⟨rfl, rfl⟩ := e1
      exact .cons r (Reps.takeI n t)
theorem Reps.dropI {K : PySem.W.Frag} {H : Hp} : ∀ {vs : List V} {ds : List D} (n : Nat), Reps K H vs ds [] → Reps K H (vs.drop n) (ds.drop n) []
  | _, _, 0, r => r
  | _, _, n + 1, r => by
    generalize e : ([] : List Addr) = F at r
    cases r with
    | nil => rw [e]; exact .nil
    | @cons _ _ F _ _ G r t =>
      have e1 : F = [] ∧ G = [] := List.append_eq_nil_iff.mp e.symm
      obtain ⟨rfl, rfl⟩ := e1
      exact Reps.dropI n t
theorem Reps.cut {K : PySem.W.Frag} {H : Hp} {vs : List V} {ds : List D} {lo hi : Option Int} (r : Reps K H vs ds []) : Reps K H (cutV vs lo hi) (cutD ds lo hi) [] := by
  unfold cutV cutD
  rw [r.length]
  exact (r.dropI _).takeI _
@[simp] def gSl11 : List D → Option D
  | [d, .int i, .int j] => sliceD d (some i) (some j)
  | _ => none
@[simp] def gSl10 : List D → Option D
  | [d, .int i] => sliceD d (some i) none
  | _ => none
@[simp] def gSl01 : List D → Option D
  | [d, .int j] => sliceD d none (some j)
  | _ => none
@[simp] def gSl00 : List D → Option D
  | [d] => sliceD d none none
  | _ => none
theorem slice_rule {d dz : D} {i j : Option Int} (h : sliceD d i j = some dz) : ∃ r : V → Option Int → Option Int → Hp → VK → Prop, (∀ X, Fits S X → SlR X r) ∧ ∀ H v F Q, Rep S.K H v d F → (∀ z H' Fz, NewV S.K H z dz H' Fz → Q z H') → r v i j H Q := by
  unfold sliceD at h
  split at h
  · split at h
    · rename_i hi
      cases h
      refine ⟨rSlL S.K, fun X hX => (by rw [← hX.K]; exact sl_list), fun H v F Q r k => ?_⟩
      obtain ⟨p, vs, G, rfl, hp, s⟩ := lst_read r
      exact ⟨p, vs, rfl, hp, fun q hq => k _ _ _ (NewV.lst hq (s.imm' hi).cut)⟩
    · cases h
  · rename_i ds
    split at h
    · rename_i hi
      cases h
      refine ⟨rSlA S.K, fun X hX => (by rw [← hX.K]; exact sl_tupA), fun H v F Q r k => ?_⟩
      have r2 := r.imm' (by rw [imm_tup]; exact hi)
      obtain ⟨p, vs, rfl, hp, s⟩ := r2.iTup
      refine ⟨p, vs, rfl, hp, fun e => ?_, fun _ q hq => k _ _ _ (NewV.tup hq s.cut)⟩
      have e2 : cutD ds i j = ds := by
        unfold cutD
        rw [s.length] at e
        rw [e.1, e.2, List.drop_zero, Nat.sub_zero]
        exact List.take_length
      exact k _ _ _ (.same (by rw [e2]; exact r2))
    · cases h
  · split at h
    · rename_i hl
      cases h
      exact ⟨rSlS, fun X _ => sl_str, fun H v F Q r k => ⟨_, r.iStr, lim_line hl, k _ _ _ (.same (.str _))⟩⟩
    · cases h
  · cases h
section
variable {a b c : Expr} {pos p2 : Pos} {κ : Kd} {κs : List Kd} {M M0 M1 M2 : List Nat} {f : EM (List D)}
theorem de_sl00 (hA : DA S [a] κs M f) : DE S (.Subscript a (.Slice none none none p2) pos) .own M (cV f gSl00) := by
  have g : ∀ {r : V → Option Int → Option Int → Hp → VK → Prop}, (∀ X, Fits S X → SlR X r) → ∀ X, Fits S X → PE X (.Subscript a (.Slice none none none p2) pos) (fun σ H Q => tBA S [a] σ H fun vs H1 => l1 (fun v H Q => r v none none H Q) vs H1 Q) := fun h X hX => pe_slice (h X hX) (pe_tB hX) po_none po_none
  refine de_v hA ⟨_, g (fun _ _ => sl_str)⟩ fun ds dz h => ?_
  unfold gSl00 at h
  split at h
  · obtain ⟨r, hr, ok⟩ := slice_rule (S := S) h
    refine ⟨_, g hr, fun H vs F Q rp k => ?_⟩
    obtain ⟨v, G, rfl, r1⟩ := rp.i1
    exact ok H v G Q r1 k
  · cases h
theorem de_sl10 (hA : DA S [a, b] κs M f) : DE S (.Subscript a (.Slice (some b) none none p2) pos) .own M (cV f gSl10) := by
  have g : ∀ {r : V → Option Int → Option Int → Hp → VK → Prop}, (∀ X, Fits S X → SlR X r) → ∀ X, Fits S X → PE X (.Subscript a (.Slice (some b) none none p2) pos) (fun σ H Q => tBA S [a, b] σ H fun vs H1 => l2 (fun v w H Q => ∃ i, w = .int i ∧ r v (some i) none H Q) vs H1 Q) := fun h X hX => pe_slice (h X hX) (pe_tB hX) (po_some (pe_tB hX)) po_none
  refine de_v hA ⟨_, g (fun _ _ => sl_str)⟩ fun ds dz h => ?_
  unfold gSl10 at h
  split at h
  · obtain ⟨r, hr, ok⟩ := slice_rule (S := S) h
    refine ⟨_, g hr, fun H vs F Q rp k => ?_⟩
    obtain ⟨v, w, G, G', rfl, r1, r2⟩ := rp.i2
    exact ⟨_, r2.iInt, ok H v G Q r1 k⟩
  · cases h
theorem de_sl01 (hA : DA S [a, b] κs M f) : DE S (.Subscript a (.Slice none (some b) none p2) pos) .own M (cV f gSl01) := by
  have g : ∀ {r : V → Option Int → Option Int → Hp → VK → Prop}, (∀ X, Fits S X → SlR X r) → ∀ X, Fits S X → PE X (.Subscript a (.Slice none (some b) none p2) pos) (fun σ H Q => tBA S [a, b] σ H fun vs H1 => l2 (fun v w H Q => ∃ i, w = .int i ∧ r v none (some i) H Q) vs H1 Q) := fun h X hX => pe_slice (h X hX) (pe_tB hX) po_none (po_some (pe_tB hX))
  refine de_v hA ⟨_, g (fun _ _ => sl_str)⟩ fun ds dz h => ?_
  unfold gSl01 at h
  split at h
  · obtain ⟨r, hr, ok⟩ := slice_rule (S := S) h
    refine ⟨_, g hr, fun H vs F Q rp k => ?_⟩
    obtain ⟨v, w, G, G', rfl, r1, r2⟩ := rp.i2
    exact ⟨_, r2.iInt, ok H v G Q r1 k⟩
  · cases h
theorem Out.ex_or {α : Type} (r : Out α) : (∃ a δ, r = .ok a δ) ∨ ∃ x, r = .ex x := by
  cases r with
  | ok a δ => exact .inl ⟨a, δ, rfl⟩
  | ex x => exact .inr ⟨x, rfl⟩
/-- a[b:c], the bounds by themselves -/
@[simp] def cSl3 (κ : Kd) (fa f1 f2 : EM D) : EM D := EM.bind fa fun d => EM.bind f1 fun i => EM.bind f2 fun j δ => match reread κ d δ with
  | some d' => match gSl11 [d', i, j] with
    | some z => match i with
      | .int _ => some (.ok z δ)
      | _ => none
    | none => none
  | none => none
theorem de_sl11 {fa f1 f2 : EM D} (ha : DE S a κ M0 fa) (h1 : DE S b .own M1 f1) (h2 : DE S c .own M2 f2) (h1i : ∀ δ d δ', f1 δ = some (.ok d δ') → ∃ i, d = .int i) (c1 : okk κ (M1 ++ M2) = true := by rfl) :
    DE S (.Subscript a (.Slice (some b) (some c) none p2) pos) .own (M0 ++ (M1 ++ M2)) (cSl3 κ fa f1 f2) := fun σ H δ Fs Q r E s hf k => by
  have g : ∀ {r : V → Option Int → Option Int → Hp → VK → Prop}, (∀ X, Fits S X → SlR X r) → ∀ X, Fits S X → PE X (.Subscript a (.Slice (some b) (some c) none p2) pos) (tSl r (tB S a) (tPart (tB S b)) (tPart (tB S c))) := fun h X hX => pe_slice (h X hX) (pe_tB hX) (po_some (pe_tB hX)) (po_some (pe_tB hX))
  rcases bind_some hf with ⟨d, δ1, e1, hf1⟩ | ⟨x, e1, rfl⟩
  · rcases bind_some hf1 with ⟨i, δ2, e2, hf2⟩ | ⟨x, e2, rfl⟩
    · obtain ⟨i, rfl⟩ := h1i _ _ _ e2
      rcases bind_some hf2 with ⟨j, δ3, e3, hf3⟩ | ⟨x, e3, rfl⟩
      · cases q : reread κ d δ3 with
        | none => rw [q] at hf3; cases hf3
        | some d' =>
          rw [q] at hf3
          simp only at hf3
          cases q2 : gSl11 [d', .int i, j] with
          | none => rw [q2] at hf3; cases hf3
          | some z =>
            rw [q2] at hf3
            cases hf3
            unfold gSl11 at q2
            split at q2
            · rename_i h
              cases h
              obtain ⟨r, hr, ok⟩ := slice_rule (S := S) q2
              refine ⟨_, g hr, ha σ H δ Fs _ _ E s e1 fun v H1 Fs1 F1 p1 o1 => h1 σ H1 δ1 Fs1 _ _ p1.env p1.sep0 e2 fun w H2 Fs2 F2 p2 o2 => ⟨_, Rep.iInt o2, h2 σ H2 δ2 Fs2 _ _ p2.env p2.sep0 e3 fun u H3 Fs3 F3 p3 o3 => ⟨_, Rep.iInt o3, ?_⟩⟩⟩
              have pp := (p1.comp (p2.comp p3))
              obtain ⟨G, rp⟩ := (o1.carry p1.sep (p2.comp p3) c1 q).rep p3.env
              exact ok H3 v G Q rp fun z' H4 Fz n => k z' H4 Fs3 Fz (pp.newv n) n.rep
            · cases q2
      · exact ⟨_, g (r := rSlS) (fun _ _ => sl_str), ha σ H δ Fs _ _ E s e1 fun v H1 Fs1 F1 p1 o1 => h1 σ H1 δ1 Fs1 _ _ p1.env p1.sep0 e2 fun w H2 Fs2 F2 p2 o2 => ⟨_, Rep.iInt o2, h2 σ H2 δ2 Fs2 _ _ p2.env p2.sep0 e3 ((XOk.post k p1).post p2)⟩⟩
    · exact ⟨_, g (r := rSlS) (fun _ _ => sl_str), ha σ H δ Fs _ _ E s e1 fun v H1 Fs1 F1 p1 o1 => h1 σ H1 δ1 Fs1 _ _ p1.env p1.sep0 e2 (XOk.post k p1)⟩
  · exact ⟨_, g (r := rSlS) (fun _ _ => sl_str), ha σ H δ Fs _ _ E s e1 k⟩
end
end DL
set_option maxHeartbeats 1000000
/-! DL7: promises of defs, calls of defs. -/
namespace DL
open PySem PySem.Spec PyProof.Rows L2
/-- what a def is worth: F on the arguments tells the value and what the arguments hold behind it; mp: the parameters that may change -/
def Prom (K : PySem.W.Frag) (mg : Str → Option Value) (F : EM D) (mp : List Nat) (n : Nat) : Sp := fun vs H Q E => vs.length = n ∧ ∃ δ Fp r, EnvR K H (vs.map some) δ Fp ∧ Sep Fp [] ∧ F δ = some r ∧
  match r with
  | .ok d δ' => ∀ v H' Fp' Fr, Post K mp H δ Fp (vs.map some) H' δ' Fp' Fr → Rep K H' v d Fr → Q v H'
  | .ex x => ∀ cv da H', ExR mg K H' x cv da → Keep (InAll Fp) H H' → E cv da H'
/-- a def of the module, by its promise -/
structure FnI (P : Program) (w : World) (K : PySem.W.Frag) (mg : Str → Option Value) (base : Heap) (x : Str) (F : EM D) (mp : List Nat) (n k : Nat) : Prop where
  ex : ∃ f fd ps, FnOk P w K mg base (L2.CX P w) k f fd ps (Prom K mg F mp n) ∧ mg x = some (.ref f) ∧ PySem.W.keepIn K (.ref f) = true ∧ Binds K fd ps []
@[simp] def jOf (mp : List Nat) (i : Nat) : Nat → List Kd → Option Nat
  | _, [] => none
  | j, .sl i' :: r => if i' = i ∧ mp.contains j = true then some j else jOf mp i (j + 1) r
  | j, _ :: r => jOf mp i (j + 1) r
theorem jOf_some {mp : List Nat} {i : Nat} : ∀ {κs : List Kd} {b j : Nat}, jOf mp i b κs = some j → b ≤ j ∧ κs[j - b]? = some (.sl i) ∧ j ∈ mp
  | [], _, _, h => by cases h
  | κ :: r, b, j, h => by
    have step : jOf mp i (b + 1) r = some j → b ≤ j ∧ (κ :: r)[j - b]? = some (.sl i) ∧ j ∈ mp := fun h => by
      obtain ⟨h1, h2, h3⟩ := jOf_some h
      refine ⟨by omega, ?_, h3⟩
      rw [show j - b = (j - (b + 1)) + 1 by omega]
      simpa using h2
    cases κ with
    | sl i' =>
      unfold jOf at h
      by_cases c : i' = i ∧ mp.contains b = true
      · rw [if_pos c] at h
        cases h
        exact ⟨Nat.le_refl _, by rw [Nat.sub_self, c.1]; rfl, by simpa using c.2⟩
      · rw [if_neg c] at h; exact step h
    | own => exact step h
    | bor B => exact step h
theorem jOf_none {mp : List Nat} {i : Nat} : ∀ {κs : List Kd} {b : Nat}, jOf mp i b κs = none → ∀ j, κs[j]? = some (.sl i) → (b + j) ∉ mp
  | [], _, _, j, e => by simp at e
  | κ :: r, b, h, j, e => by
    have step : jOf mp i (b + 1) r = none → ∀ j, r[j]? = some (.sl i) → (b + (j + 1)) ∉ mp := fun h j e => by
      have := jOf_none h j e
      rwa [show b + (j + 1) = b + 1 + j by omega]
    cases κ with
    | sl i' =>
      unfold jOf at h
      by_cases c : i' = i ∧ mp.contains b = true
      · rw [if_pos c] at h; cases h
      · rw [if_neg c] at h
        cases j with
        | zero =>
          simp at e
          intro m
          exact c ⟨e, by simpa using m⟩
        | succ j => exact step h j (by simpa using e)
    | own =>
      cases j with
      | zero => simp at e
      | succ j => exact step h j (by simpa using e)
    | bor B =>
      cases j with
      | zero => simp at e
      | succ j => exact step h j (by simpa using e)
@[simp] def mapI (g : Nat → Option D → Option D) : Nat → DEnv → DEnv
  | _, [] => []
  | i, o :: r => g i o :: mapI g (i + 1) r
theorem mapI_get (g : Nat → Option D → Option D) : ∀ (δ : DEnv) (k i : Nat), (mapI g k δ)[i]? = (δ[i]?).map (g (k + i))
  | [], _, _ => by simp [mapI]
  | o :: r, k, 0 => by simp [mapI]
  | o :: r, k, i + 1 => by
    rw [mapI]
    simp only [List.getElem?_cons_succ]
    rw [mapI_get g r (k + 1) i, show k + 1 + i = k + (i + 1) by omega]
theorem mapI_len (g : Nat → Option D → Option D) : ∀ (δ : DEnv) (k : Nat), (mapI g k δ).length = δ.length
  | [], _ => rfl
  | o :: r, k => by rw [mapI, List.length_cons, List.length_cons, mapI_len g r]
/-- the caller's environment behind a call -/
@[simp] def backD (mp : List Nat) (κs : List Kd) (δ' δ : DEnv) : DEnv := mapI (fun i o => match jOf mp i 0 κs with
  | some j => (δ'[j]?).join
  | none => o) 0 δ
def slOf : Kd → Option Nat
  | .sl i => some i
  | _ => none
def callM (mp : List Nat) : Nat → List Kd → List Nat
  | _, [] => []
  | j, .sl i :: r => if mp.contains j = true then i :: callM mp (j + 1) r else callM mp (j + 1) r
  | j, _ :: r => callM mp (j + 1) r
theorem callM_mem {mp : List Nat} {i : Nat} : ∀ {κs : List Kd} {b : Nat}, (∃ j, κs[j]? = some (.sl i) ∧ (b + j) ∈ mp) → i ∈ callM mp b κs
  | [], _, ⟨j, e, _⟩ => by simp at e
  | κ :: r, b, ⟨j, e, m⟩ => by
    cases j with
    | zero =>
      simp at e
      subst e
      unfold callM
      rw [if_pos (by simpa using m)]
      exact List.mem_cons_self
    | succ j =>
      have ih : i ∈ callM mp (b + 1) r := callM_mem ⟨j, by simpa using e, by rwa [show b + 1 + j = b + (j + 1) by omega]⟩
      cases κ with
      | sl i' =>
        unfold callM
        split
        · exact List.mem_cons_of_mem _ ih
        · exact ih
      | own => exact ih
      | bor B => exact ih
def argOk : Kd → Bool
  | .bor _ => false
  | _ => true
theorem OpnL.lenV {K : PySem.W.Frag} {H : Hp} {σ : L2.St} {δ : DEnv} {Fs : FT} : ∀ {κs : List Kd} {vs : List V} {ds : List D} {Gs : List (List Addr)}, OpnL K H σ δ Fs κs vs ds Gs → vs.length = ds.length ∧ κs.length = ds.length
  | _, _, _, _, .nil => ⟨rfl, rfl⟩
  | _, _, _, _, .cons _ t => by
    have := t.lenV
    simp only [List.length_cons]
    omega
theorem OpnL.get {K : PySem.W.Frag} {H : Hp} {σ : L2.St} {δ : DEnv} {Fs : FT} : ∀ {κs : List Kd} {vs : List V} {ds : List D} {Gs : List (List Addr)} {j : Nat} {κ : Kd}, OpnL K H σ δ Fs κs vs ds Gs → κs[j]? = some κ → ∃ v d F, vs[j]? = some v ∧ ds[j]? = some d ∧ Gs[j]? = some F ∧ Opn K H σ δ Fs F κ v d
  | _, _, _, _, _, _, .nil, e => by simp at e
  | _, _, _, _, 0, _, .cons h t, e => by
    simp at e; subst e
    exact ⟨_, _, _, rfl, rfl, rfl, h⟩
  | _, _, _, _, j + 1, _, .cons h t, e => by
    obtain ⟨v, d, F, h1, h2, h3, h4⟩ := t.get (j := j) (by simpa using e)
    exact ⟨v, d, F, by simpa using h1, by simpa using h2, by simpa using h3, h4⟩
theorem flat_mem {Gs : List (List Addr)} {j : Nat} {F : List Addr} {a : Addr} (h : Gs[j]? = some F) (m : a ∈ F) : a ∈ Gs.flatten := List.mem_flatten.mpr ⟨F, List.mem_of_getElem? h, m⟩
theorem flat_nd : ∀ {Gs : List (List Addr)} {j : Nat} {F : List Addr}, Gs.flatten.Nodup → Gs[j]? = some F → F.Nodup
  | [], _, _, _, h => by simp at h
  | G :: Gs, 0, _, nd, h => by
    simp at h; subst h
    rw [List.flatten_cons] at nd
    exact (List.nodup_append.mp nd).1
  | G :: Gs, j + 1, _, nd, h => by
    rw [List.flatten_cons] at nd
    exact flat_nd (j := j) (List.nodup_append.mp nd).2.1 (by simpa using h)
theorem flat_dis : ∀ {Gs : List (List Addr)} {i j : Nat} {F G : List Addr} {a : Addr}, Gs.flatten.Nodup → Gs[i]? = some F → Gs[j]? = some G → i ≠ j → a ∈ F → a ∉ G
  | [], _, _, _, _, _, _, h, _, _, _ => by simp at h
  | X :: Gs, 0, 0, _, _, _, _, _, _, n, _ => absurd rfl n
  | X :: Gs, 0, j + 1, F, G, a, nd, h, h', _, m => fun z => by
    simp at h; subst h
    rw [List.flatten_cons] at nd
    exact (List.nodup_append.mp nd).2.2 a m a (flat_mem (j := j) (by simpa using h') z) rfl
  | X :: Gs, i + 1, 0, F, G, a, nd, h, h', _, m => fun z => by
    simp at h'; subst h'
    rw [List.flatten_cons] at nd
    exact (List.nodup_append.mp nd).2.2 a z a (flat_mem (j := i) (by simpa using h) m) rfl
  | X :: Gs, i + 1, j + 1, _, _, _, nd, h, h', n, m => by
    rw [List.flatten_cons] at nd
    exact flat_dis (i := i) (j := j) (List.nodup_append.mp nd).2.1 (by simpa using h) (by simpa using h') (fun e => n (by rw [e])) m
theorem slots_inj : ∀ {κs : List Kd} {i j j' : Nat}, (κs.filterMap slOf).Nodup → κs[j]? = some (.sl i) → κs[j']? = some (.sl i) → j = j'
  | [], _, _, _, _, h, _ => by simp at h
  | κ :: r, i, 0, 0, _, _, _ => rfl
  | κ :: r, i, 0, j' + 1, nd, h, h' => by
    simp at h; subst h
    have nd : (i :: r.filterMap slOf).Nodup := nd
    exact absurd (show i ∈ r.filterMap slOf from List.mem_filterMap.mpr ⟨Kd.sl i, List.mem_of_getElem? (i := j') (by simpa using h'), rfl⟩) (List.nodup_cons.mp nd).1
  | κ :: r, i, j + 1, 0, nd, h, h' => by
    simp at h'; subst h'
    have nd : (i :: r.filterMap slOf).Nodup := nd
    exact absurd (show i ∈ r.filterMap slOf from List.mem_filterMap.mpr ⟨Kd.sl i, List.mem_of_getElem? (i := j) (by simpa using h), rfl⟩) (List.nodup_cons.mp nd).1
  | κ :: r, i, j + 1, j' + 1, nd, h, h' => by
    have nd2 : (r.filterMap slOf).Nodup := by
      rw [List.filterMap_cons] at nd
      split at nd
      · exact nd
      · exact (List.nodup_cons.mp nd).2
    rw [slots_inj (j := j) (j' := j') nd2 (by simpa using h) (by simpa using h')]
def argF (κs : List Kd) (Frs : List (List Addr)) (Fs : FT) : FT := fun j => match κs[j]? with
  | some .own => Frs.getD j []
  | some (.sl i) => Fs i
  | _ => []
def backF (mp : List Nat) (κs : List Kd) (Fp' Fs : FT) : FT := fun i => match jOf mp i 0 κs with
  | some j => Fp' j
  | none => Fs i
section
variable {K : PySem.W.Frag} {H H1 H2 : Hp} {σ : L2.St} {δ δ1 δ' : DEnv} {Fs Fs1 Fp' : FT} {κs : List Kd} {vs : List V} {ds : List D} {Frs : List (List Addr)} {M mp : List Nat} {Fr : List Addr}
theorem argF_own {j : Nat} {F : List Addr} (h : κs[j]? = some .own) (g : Frs[j]? = some F) : argF κs Frs Fs j = F := by
  unfold argF
  rw [h]
  show Frs.getD j [] = F
  rw [List.getD_eq_getElem?_getD, g]
  rfl
theorem argF_sl {j i : Nat} (h : κs[j]? = some (.sl i)) : argF κs Frs Fs j = Fs i := by
  unfold argF
  rw [h]
theorem argF_mem {j : Nat} {a : Addr} (o : OpnL K H1 σ δ1 Fs1 κs vs ds Frs) (m : a ∈ argF κs Frs Fs1 j) : (κs[j]? = some .own ∧ ∃ F, Frs[j]? = some F ∧ a ∈ F) ∨ ∃ i, κs[j]? = some (.sl i) ∧ a ∈ Fs1 i := by
  unfold argF at m
  split at m
  · rename_i h
    obtain ⟨v, d, F, _, _, h3, _⟩ := o.get h
    refine .inl ⟨h, F, h3, ?_⟩
    rw [List.getD_eq_getElem?_getD, h3] at m
    exact m
  · rename_i i h
    exact .inr ⟨i, h, m⟩
  · cases m
theorem args_env (p : Post K M H δ Fs σ H1 δ1 Fs1 Frs.flatten) (o : OpnL K H1 σ δ1 Fs1 κs vs ds Frs) (hk : κs.all argOk = true) : EnvR K H1 (vs.map some) (ds.map some) (argF κs Frs Fs1) := by
  refine ⟨by simp [o.lenV.1], fun j d e => ?_, fun j h => ?_⟩
  · rw [List.getElem?_map] at e
    cases q : ds[j]? with
    | none => rw [q] at e; cases e
    | some d' =>
      rw [q] at e
      cases e
      have hj : j < κs.length := by
        rw [o.lenV.2]
        exact (List.getElem?_eq_some_iff.mp q).1
      obtain ⟨v, d2, F, h1, h2, h3, h4⟩ := o.get (List.getElem?_eq_getElem hj)
      rw [q] at h2
      cases h2
      have hk' : argOk κs[j] = true := List.all_eq_true.mp hk _ (List.getElem_mem hj)
      have hg := List.getElem?_eq_getElem hj
      generalize hκ : κs[j] = κ at h4 hk' hg
      refine ⟨v, by rw [List.getElem?_map, h1]; rfl, ?_⟩
      cases κ with
      | own => rw [argF_own hg h3]; exact h4
      | sl i =>
        rw [argF_sl hg]
        obtain ⟨_, h5, h6⟩ := h4
        obtain ⟨w, h7, h8⟩ := p.env.at i d h6
        rw [h5] at h7
        cases h7
        exact h8
      | bor B => cases hk'
  · unfold argF
    split
    · rename_i q
      obtain ⟨v, d, F, _, h2, _, _⟩ := o.get q
      exact absurd (by rw [List.getElem?_map, h2]; rfl) (h d)
    · rename_i i q
      obtain ⟨v, d, F, _, h2, _, _⟩ := o.get q
      exact absurd (by rw [List.getElem?_map, h2]; rfl) (h d)
    · rfl
theorem args_sep (p : Post K M H δ Fs σ H1 δ1 Fs1 Frs.flatten) (o : OpnL K H1 σ δ1 Fs1 κs vs ds Frs) (hd : (κs.filterMap slOf).Nodup) : Sep (argF κs Frs Fs1) [] := by
  refine ⟨List.nodup_nil, fun j => ?_, fun i j n a m m' => ?_, fun _ _ m => (nomatch m)⟩
  · unfold argF
    split
    · rename_i q
      obtain ⟨v, d, F, _, _, h3, _⟩ := o.get q
      rw [List.getD_eq_getElem?_getD, h3]
      exact flat_nd p.sep.ndr h3
    · exact p.sep.nds _
    · exact List.nodup_nil
  · rcases argF_mem o m with ⟨h1, F, h2, h3⟩ | ⟨x, h1, h2⟩
    · rcases argF_mem o m' with ⟨g1, G, g2, g3⟩ | ⟨y, g1, g2⟩
      · exact flat_dis p.sep.ndr h2 g2 n h3 g3
      · exact p.sep.dir y a (flat_mem h2 h3) g2
    · rcases argF_mem o m' with ⟨g1, G, g2, g3⟩ | ⟨y, g1, g2⟩
      · exact p.sep.dir x a (flat_mem g2 g3) h2
      · by_cases e : x = y
        · subst e
          exact n (slots_inj hd h1 g1)
        · exact p.sep.dis x y e a h2 g2
/-- the caller's state behind a call -/
theorem Post.call (p : Post K M H δ Fs σ H1 δ1 Fs1 Frs.flatten) (o : OpnL K H1 σ δ1 Fs1 κs vs ds Frs) (hd : (κs.filterMap slOf).Nodup)
    (q : Post K mp H1 (ds.map some) (argF κs Frs Fs1) (vs.map some) H2 δ' Fp' Fr) : Post K (M ++ callM mp 0 κs) H δ Fs σ H2 (backD mp κs δ' δ1) (backF mp κs Fp' Fs1) Fr := by
  -- what the callee may touch
  have tch : ∀ a, InM mp (argF κs Frs Fs1) a → (∃ F j, Frs[j]? = some F ∧ a ∈ F) ∨ ∃ j i, κs[j]? = some (.sl i) ∧ j ∈ mp ∧ a ∈ Fs1 i := fun a ⟨j, hj, m⟩ => by
    rcases argF_mem o m with ⟨_, F, h2, h3⟩ | ⟨i, h1, h2⟩
    · exact .inl ⟨F, j, h2, h3⟩
    · exact .inr ⟨j, i, h1, hj, h2⟩
  -- a slot that is not handed over is not touched
  have away : ∀ i, jOf mp i 0 κs = none → ∀ a ∈ Fs1 i, ¬ (InM mp (argF κs Frs Fs1) a ∨ H1 a = none) := fun i hi a m h => by
    rcases h with h | h
    · rcases tch a h with ⟨F, j, h2, h3⟩ | ⟨j, i', h1, hj, h2⟩
      · exact p.sep.dir i a (flat_mem h2 h3) m
      · by_cases e : i' = i
        · subst e
          exact jOf_none hi j h1 (by simpa using hj)
        · exact p.sep.dis i' i e a h2 m
    · obtain ⟨u, e, _⟩ := p.env.trk m
      rw [e] at h; cases h
  have slot : ∀ {i j : Nat}, jOf mp i 0 κs = some j → κs[j]? = some (Kd.sl i) ∧ j ∈ mp := fun h => by
    have := jOf_some h
    exact ⟨by simpa using this.2.1, this.2.2⟩
  have inCall : ∀ {i j}, jOf mp i 0 κs = some j → i ∈ callM mp 0 κs := fun h => callM_mem ⟨_, (slot h).1, by simpa using (slot h).2⟩
  have back : ∀ a, InM mp (argF κs Frs Fs1) a ∨ H1 a = none → InM (M ++ callM mp 0 κs) Fs a ∨ H a = none := fun a h => by
    rcases h with h | h
    · rcases tch a h with ⟨F, j, h2, h3⟩ | ⟨j, i, h1, hj, h2⟩
      · exact (p.subr a (flat_mem h2 h3)).imp (fun z => z.mono fun i m => List.mem_append_left _ m) id
      · by_cases hm : i ∈ M
        · exact (p.sub i hm a h2).imp (fun z => z.mono fun i m => List.mem_append_left _ m) id
        · rw [(p.same i hm).1] at h2
          exact .inl ⟨i, List.mem_append_right _ (callM_mem ⟨j, h1, by simpa using hj⟩), h2⟩
    · exact (p.old h).imp (fun z => z.mono fun i m => List.mem_append_left _ m) id
  have hjv : ∀ {i j : Nat}, κs[j]? = some (Kd.sl i) → ∃ v, vs[j]? = some v ∧ σ[i]? = some (some v) := fun h => by
    obtain ⟨v, d, F, h1, _, _, h4⟩ := o.get h
    exact ⟨v, h1, h4.2.1⟩
  have getB : ∀ i, (backD mp κs δ' δ1)[i]? = (δ1[i]?).map fun x => match jOf mp i 0 κs with
      | some j => (δ'[j]?).join
      | none => x := fun i => by
    unfold backD
    rw [mapI_get, Nat.zero_add]
  refine ⟨⟨?_, fun i d e => ?_, fun i h => ?_⟩, ⟨q.sep.ndr, fun i => ?_, fun i i' n a m => ?_, fun i a m => ?_⟩, q.trk, fun i hi a m => ?_, fun a m => back a (q.subr a m), fun a u e c => ?_, fun i n => ?_⟩
  · rw [p.env.len]
    unfold backD
    rw [mapI_len]
  · rw [getB] at e
    cases e1 : δ1[i]? with
    | none => rw [e1] at e; cases e
    | some x =>
      rw [e1] at e
      have e : (match jOf mp i 0 κs with | some j => (δ'[j]?).join | none => x) = some d := Option.some.inj e
      unfold backF
      cases e2 : jOf mp i 0 κs with
      | none =>
        rw [e2] at e
        have e : x = some d := e
        subst e
        obtain ⟨v, h1, h2⟩ := p.env.at i d e1
        exact ⟨v, h1, h2.keep q.keep fun a m z => away i e2 a m (.inl z)⟩
      | some j =>
        rw [e2] at e
        have e : (δ'[j]?).join = some d := e
        obtain ⟨v, h1, h2⟩ := hjv (slot e2).1
        have e3 : δ'[j]? = some (some d) := by
          cases h : δ'[j]? with
          | none => rw [h] at e; cases e
          | some x => rw [h] at e; exact congrArg some e
        obtain ⟨v', h3, h4⟩ := q.env.at j d e3
        rw [List.getElem?_map, h1] at h3
        cases h3
        exact ⟨v, h2, h4⟩
  · unfold backF
    cases e2 : jOf mp i 0 κs with
    | none =>
      refine p.env.no i fun d e => h d ?_
      rw [getB, e, e2]; rfl
    | some j =>
      refine q.env.no j fun d e => h d ?_
      obtain ⟨v, h1, h2⟩ := hjv (slot e2).1
      have hi : i < δ1.length := by rw [← p.env.len]; exact (List.getElem?_eq_some_iff.mp h2).1
      rw [getB, List.getElem?_eq_getElem hi, e2]
      show some (δ'[j]?).join = some (some d)
      rw [e]; rfl
  · unfold backF
    split
    · exact q.sep.nds _
    · exact p.sep.nds _
  · unfold backF at m ⊢
    cases e1 : jOf mp i 0 κs with
    | none =>
      rw [e1] at m
      cases e2 : jOf mp i' 0 κs with
      | none => exact p.sep.dis i i' n a m
      | some j' => exact fun z => away i e1 a m (q.sub j' (slot e2).2 a z)
    | some j =>
      rw [e1] at m
      cases e2 : jOf mp i' 0 κs with
      | none => exact fun z => away i' e2 a z (q.sub j (slot e1).2 a m)
      | some j' =>
        refine q.sep.dis j j' (fun e => n ?_) a m
        subst e
        have := (slot e1).1.symm.trans (slot e2).1
        injection this with this
        injection this
  · unfold backF
    cases e1 : jOf mp i 0 κs with
    | none => exact fun z => away i e1 a z (q.subr a m)
    | some j => exact q.sep.dir j a m
  · unfold backF at m
    cases e1 : jOf mp i 0 κs with
    | none =>
      rw [e1] at m
      by_cases hm : i ∈ M
      · exact (p.sub i hm a m).imp (fun z => z.mono fun i m => List.mem_append_left _ m) id
      · rw [(p.same i hm).1] at m
        exact .inl ⟨i, hi, m⟩
    | some j =>
      rw [e1] at m
      exact back a (q.sub j (slot e1).2 a m)
  · refine q.keep a u (p.keep a u e (c.imp (fun n z => n (z.mono fun i m => List.mem_append_left _ m)) id)) (c.imp (fun n z => ?_) id)
    rcases back a (.inl z) with z | z
    · exact n z
    · rw [e] at z; cases z
  · have n1 : i ∉ M := fun z => n (List.mem_append_left _ z)
    have n2 : jOf mp i 0 κs = none := by
      cases e : jOf mp i 0 κs with
      | none => rfl
      | some j => exact absurd (List.mem_append_right _ (inCall e)) n
    refine ⟨?_, ?_⟩
    · unfold backF
      rw [n2]
      exact (p.same i n1).1
    · rw [getB, n2, ← (p.same i n1).2]
      cases δ1[i]? <;> rfl
end
@[simp] def cCall (κs : List Kd) (F : EM D) (mp : List Nat) (f : EM (List D)) : EM D := EM.bind f fun ds δ1 => match F (ds.map some) with
  | some (.ok d δ') => some (.ok d (backD mp κs δ' δ1))
  | some (.ex x) => some (.ex x)
  | none => none
theorem Passes_of {S : Sig} {X : Cx} (h : Fits S X) : Passes (L2.CX S.P S.w) X S.E := by
  have := passes_call (X := X) (E := S.E) h.tk fun _ _ _ _ h => h
  rw [h.prog, h.w] at this
  exact this
theorem de_call {S : Sig} {x : Str} {F : EM D} {mp : List Nat} {n k : Nat} {e : Expr} {es : List Expr} {κs : List Kd} {M : List Nat} {f : EM (List D)} {p pos : Pos} (FI : FnI S.P S.w S.K S.mg S.base x F mp n k) (hk : k ≤ S.k) (gl : S.sc.names.lookup x = some .globalImplicit)
    (hA : DA S (e :: es) κs M f) (hp : Plain (e :: es)) (hn : κs.length = n) (ho : κs.all argOk = true) (hd : (κs.filterMap slOf).Nodup) (hdb : (x == ("__debug__" : Str)) = false := by decide) :
    DE S (.Call (.Name x p) (e :: es) [] pos) .own (M ++ callM mp 0 κs) (cCall κs F mp f) := fun σ H δ Fs Q r E s hf kk => by
  obtain ⟨fa, fd, ps, ok, mg, kp, bi⟩ := FI.ex
  have g : ∀ X, Fits S X → PE X (.Call (.Name x p) (e :: es) [] pos) (tCall (Prom S.K S.mg F mp n) [] S.E (tBA S (e :: es))) := fun X hX => by
    refine pe_call (CX := L2.CX S.P S.w) (k := k) (f := fa) (fd := fd) (ps := ps) (ds := []) ?_ (hX.room.mono hk) (by show X.env.scope.names.lookup x = _; rw [hX.sc]; exact gl) (by rw [hX.mg]; exact mg) (by rw [hX.K]; exact kp) (by rw [hX.K]; exact bi) .nil (Passes_of hX) (pa_tB hX hp) hdb (hp.1 _) (plain_any hp.2)
    rw [hX.prog, hX.w, hX.K, hX.mg, hX.base]
    exact ok
  refine ⟨_, g, ?_⟩
  show tBA S (e :: es) σ H fun vs H1 => Prom S.K S.mg F mp n (vs ++ []) H1 Q S.E
  rcases bind_some hf with ⟨ds, δ1, h1, h2⟩ | ⟨x, h1, rfl⟩
  · refine hA σ H δ Fs _ _ E s h1 fun vs H1 Fs1 Frs p o => ?_
    rw [List.append_nil]
    cases e1 : F (ds.map some) with
    | none => rw [e1] at h2; cases h2
    | some rr =>
      rw [e1] at h2
      refine ⟨by rw [o.lenV.1, ← o.lenV.2, hn], ds.map some, argF κs Frs Fs1, rr, args_env p o ho, args_sep p o hd, e1, ?_⟩
      cases rr with
      | ok d δ' =>
        cases h2
        exact fun v H2 Fp' Fr q rp => kk v H2 _ Fr (p.call o hd q) rp
      | ex x =>
        cases h2
        intro cv da H' er kp'
        refine kk cv da H' er (p.keep.trans kp' (fun a _ b => b.all) fun a na ⟨j, m⟩ => ?_)
        rcases argF_mem o m with ⟨_, G, h3, h4⟩ | ⟨i, h3, h4⟩
        · exact ((p.subr a (flat_mem h3 h4)).resolve_right na).all
        · exact (p.all h4).resolve_right na
  · exact hA σ H δ Fs _ _ E s h1 kk
theorem de_call0 {S : Sig} {x : Str} {F : EM D} {mp : List Nat} {k : Nat} {p pos : Pos} (FI : FnI S.P S.w S.K S.mg S.base x F mp 0 k) (hk : k ≤ S.k) (gl : S.sc.names.lookup x = some .globalImplicit) (hdb : (x == ("__debug__" : Str)) = false := by decide) :
    DE S (.Call (.Name x p) [] [] pos) .own [] (cCall [] F mp (cArgs [])) := fun σ H δ Fs Q r E s hf kk => by
  obtain ⟨fa, fd, ps, ok, mg, kp, bi⟩ := FI.ex
  have g : ∀ X, Fits S X → PE X (.Call (.Name x p) [] [] pos) (tCall (Prom S.K S.mg F mp 0) [] S.E tNil) := fun X hX => by
    refine pe_call0 (CX := L2.CX S.P S.w) (k := k) (f := fa) (fd := fd) (ps := ps) (ds := []) ?_ (hX.room.mono hk) (by show X.env.scope.names.lookup x = _; rw [hX.sc]; exact gl) (by rw [hX.mg]; exact mg) (by rw [hX.K]; exact kp) (by rw [hX.K]; exact bi) .nil (Passes_of hX) hdb
    rw [hX.prog, hX.w, hX.K, hX.mg, hX.base]
    exact ok
  refine ⟨_, g, ?_⟩
  show Prom S.K S.mg F mp 0 ([] ++ []) H Q S.E
  have p : Post S.K [] H δ Fs σ H δ Fs ([] : List (List Addr)).flatten := Post.refl E s
  have o : OpnL S.K H σ δ Fs [] [] [] [] := .nil
  have h2 : (match F (([] : List D).map some) with
    | some (.ok d δ') => some (Out.ok d (backD mp [] δ' δ))
    | some (.ex x) => some (.ex x)
    | none => none) = some r := hf
  cases e1 : F (([] : List D).map some) with
  | none => rw [e1] at h2; cases h2
  | some rr =>
    rw [e1] at h2
    refine ⟨rfl, _, argF [] [] Fs, rr, args_env p o rfl, args_sep p o List.nodup_nil, e1, ?_⟩
    cases rr with
    | ok d δ' =>
      cases h2
      exact fun v H2 Fp' Fr q rp => kk v H2 _ Fr (p.call o List.nodup_nil q) rp
    | ex x =>
      cases h2
      intro cv da H' er kp'
      exact kk cv da H' er (kp'.imp fun a na ⟨j, m⟩ => by
        rcases argF_mem o m with ⟨h, _⟩ | ⟨i, h, _⟩ <;> simp at h)
end DL
set_option maxHeartbeats 1000000
/-! DL8: what is walked; targets; comprehensions. -/
namespace DL
open PySem PySem.Spec PyProof.Rows L2
variable {S : Sig}
/-! ### targets -/
inductive Tg where
  | nm (i : Nat)
  | tup (is : List Nat)
def Tg.slots : Tg → List Nat
  | .nm i => [i]
  | .tup is => is
@[simp] def setsD : List Nat → List D → DEnv → Option DEnv
  | [], [], δ => some δ
  | i :: is, d :: ds, δ => if i < δ.length then setsD is ds (δ.set i (some d)) else none
  | _, _, _ => none
/-- the target takes an item -/
@[simp] def bindT : Tg → D → DEnv → Option DEnv
  | .nm i, d, δ => setsD [i] [d] δ
  | .tup is, .tuple ds, δ => setsD is ds δ
  | .tup _, _, _ => none
def setsV : List Nat → List V → L2.St → L2.St
  | i :: is, v :: vs, σ => setsV is vs (σ.set i (some v))
  | _, _, σ => σ
/-- a slot takes an owned value -/
theorem Post.set {K : PySem.W.Frag} {M : List Nat} {H H1 : Hp} {δ δ1 : DEnv} {Fs Fs1 : FT} {σ1 : L2.St} {F G : List Addr} {i : Nat} {v : V} {d : D} (p : Post K M H δ Fs σ1 H1 δ1 Fs1 (F ++ G)) (hi : i < δ1.length) (r : Rep K H1 v d G) :
    Post K (M ++ [i]) H δ Fs (σ1.set i (some v)) H1 (δ1.set i (some d)) (setF Fs1 i G) F := by
  have nd := List.nodup_append.mp p.sep.ndr
  refine ⟨⟨?_, fun j dj h => ?_, fun j h => ?_⟩, ⟨nd.1, fun j => ?_, fun j l hjl a m => ?_, fun j a m => ?_⟩, fun a m => p.trk a (List.mem_append_left _ m), fun j hj a m => ?_, fun a m => (p.subr a (List.mem_append_left _ m)).imp (fun z => z.mono fun i m => List.mem_append_left _ m) id, p.keep.imp fun a _ z => z.mono fun i m => List.mem_append_left _ m, fun j hj => ?_⟩
  · rw [List.length_set, List.length_set]; exact p.env.len
  · by_cases q : i = j
    · subst q
      rw [List.getElem?_set_self hi] at h
      cases h
      exact ⟨v, List.getElem?_set_self (by rw [p.env.len]; exact hi), by rw [setF_same]; exact r⟩
    · rw [List.getElem?_set_ne q] at h
      rw [List.getElem?_set_ne q, setF_ne (Ne.symm q)]
      exact p.env.at j dj h
  · by_cases q : i = j
    · subst q
      exact absurd (List.getElem?_set_self hi) (h d)
    · rw [setF_ne (Ne.symm q)]
      exact p.env.no j fun dj hh => h dj (by rw [List.getElem?_set_ne q]; exact hh)
  · by_cases q : j = i
    · rw [q, setF_same]; exact nd.2.1
    · rw [setF_ne q]; exact p.sep.nds j
  · by_cases q : j = i
    · subst q
      rw [setF_same] at m
      rw [setF_ne (Ne.symm hjl)]
      exact p.sep.dir l a (List.mem_append_right _ m)
    · rw [setF_ne q] at m
      by_cases q2 : l = i
      · subst q2
        rw [setF_same]
        exact fun z => p.sep.dir j a (List.mem_append_right _ z) m
      · rw [setF_ne q2]; exact p.sep.dis j l hjl a m
  · by_cases q : j = i
    · rw [q, setF_same]
      exact fun z => nd.2.2 a m a z rfl
    · rw [setF_ne q]; exact p.sep.dir j a (List.mem_append_left _ m)
  · by_cases q : j = i
    · subst q
      rw [setF_same] at m
      exact (p.subr a (List.mem_append_right _ m)).imp (fun z => z.mono fun i m => List.mem_append_left _ m) id
    · rw [setF_ne q] at m
      have hj' : j ∈ M := by
        rcases List.mem_append.mp hj with h | h
        · exact h
        · exact absurd (by simpa using h) q
      exact (p.sub j hj' a m).imp (fun z => z.mono fun i m => List.mem_append_left _ m) id
  · have n1 : j ∉ M := fun z => hj (List.mem_append_left _ z)
    have n2 : j ≠ i := fun z => hj (List.mem_append_right _ (by simp [z]))
    exact ⟨(setF_ne n2).trans (p.same j n1).1, (List.getElem?_set_ne (Ne.symm n2)).trans (p.same j n1).2⟩
def wipeF (vs : List Nat) (Fs : FT) : FT := fun i => if i ∈ vs then [] else Fs i
theorem wipeF_in {vs : List Nat} {Fs : FT} {i : Nat} (h : i ∈ vs) : wipeF vs Fs i = [] := if_pos h
theorem wipeF_out {vs : List Nat} {Fs : FT} {i : Nat} (h : i ∉ vs) : wipeF vs Fs i = Fs i := if_neg h
theorem Post.sets {K : PySem.W.Frag} {H H1 : Hp} {δ : DEnv} {Fs : FT} {F : List Addr} : ∀ {is : List Nat} {vs : List V} {ds : List D} {M : List Nat} {σ1 : L2.St} {δ1 δ2 : DEnv} {Fs1 : FT}, Post K M H δ Fs σ1 H1 δ1 Fs1 F → Reps K H1 vs ds [] → setsD is ds δ1 = some δ2 →
    Post K (M ++ is) H δ Fs (setsV is vs σ1) H1 δ2 (wipeF is Fs1) F
  | [], _, [], M, σ1, δ1, δ2, Fs1, p, r, h => by
    cases h
    cases r
    rw [List.append_nil]
    have e : wipeF [] Fs1 = Fs1 := funext fun i => wipeF_out (by simp)
    rw [e]
    exact p
  | i :: is, vs, d :: ds, M, σ1, δ1, δ2, Fs1, p, r, h => by
    unfold setsD at h
    by_cases hi : i < δ1.length
    · rw [if_pos hi] at h
      generalize e : ([] : List Addr) = G at r
      cases r with
      | @cons v _ F1 vs _ G1 r1 rt =>
        have e1 : F1 = [] ∧ G1 = [] := List.append_eq_nil_iff.mp e.symm
        obtain ⟨rfl, rfl⟩ := e1
        have p2 := Post.set (F := F) (G := []) (by rw [List.append_nil]; exact p) hi r1
        have p3 := Post.sets p2 rt h
        rw [List.append_assoc] at p3
        have e : wipeF is (setF Fs1 i []) = wipeF (i :: is) Fs1 := funext fun j => by
          by_cases h1 : j ∈ is
          · rw [wipeF_in h1, wipeF_in (List.mem_cons_of_mem _ h1)]
          · rw [wipeF_out h1]
            by_cases h2 : j = i
            · rw [h2, setF_same, wipeF_in List.mem_cons_self]
            · rw [setF_ne h2, wipeF_out (by simp [h1, h2])]
        rw [e] at p3
        exact p3
    · rw [if_neg hi] at h; cases h
  | [], _, _ :: _, _, _, _, _, _, _, _, h => by cases h
  | _ :: _, _, [], _, _, _, _, _, _, _, h => by cases h
/-- a target and its reading -/
structure TgOk (S : Sig) (tg : Expr) (t : Tg) : Prop where
  ex : ∃ g : TG, (∀ X, Fits S X → PG X tg g) ∧
    ∀ v d σ H (Q : L2.St → Hp → Prop) δ δ2, Rep S.K H v d [] → bindT t d δ = some δ2 → (∀ is vs ds, t.slots = is → Reps S.K H vs ds [] → setsD is ds δ = some δ2 → Q (setsV is vs σ) H) → g v σ H Q
/-- a name of the def that is stored -/
structure NmT (S : Sig) (i : Nat) (x : Str) : Prop where
  nd : S.N.Nodup
  hN : S.N[i]? = some x
  loc : Loc S.sc x
  fn : S.fn x = true ∨ S.sc.names.lookup x = some .local
theorem NmT.pg {X : Cx} {i : Nat} {x : Str} {pos : Pos} (n : NmT S i x) (h : Fits S X) : PG X (.Name x pos) (gName i) :=
  pg_name (by rw [h.N]; exact n.nd) (by rw [h.N]; exact n.hN) (by rw [h.sc]; exact n.loc) (by rw [h.sc]; exact n.fn.imp (h.fn x) id)
theorem tg_nm {i : Nat} {x : Str} {pos : Pos} (n : NmT S i x) : TgOk S (.Name x pos) (.nm i) :=
  ⟨gName i, fun X hX => n.pg hX, fun v d σ H Q δ δ2 r h k => k [i] [v] [d] rfl (.cons (F := []) r .nil) h⟩
inductive TgsOk (S : Sig) : List Expr → List Nat → Prop
  | nil : TgsOk S [] []
  | cons {i : Nat} {x : Str} {pos : Pos} {es : List Expr} {is : List Nat} (n : NmT S i x) (t : TgsOk S es is) (hs : ∀ env, (assignEach (.Name x pos :: es) env).map (·.2) = assign (.Name x pos) env :: (assignEach es env).map (·.2)) : TgsOk S (.Name x pos :: es) (i :: is)
def gNames : List Nat → TGs
  | [] => gNil
  | i :: is => gCons (gName i) (gNames is)
theorem TgsOk.pgs {X : Cx} : ∀ {es : List Expr} {is : List Nat}, TgsOk S es is → Fits S X → PGs X es (gNames is)
  | _, _, .nil, _ => pgs_nil
  | _, _, .cons n t hs, h => pgs_cons (n.pg h) (t.pgs h) (hs _)
theorem gNames_run {Q : L2.St → Hp → Prop} {H : Hp} : ∀ {is : List Nat} {vs : List V} {σ : L2.St}, vs.length = is.length → Q (setsV is vs σ) H → gNames is vs σ H Q
  | [], [], _, _, q => ⟨rfl, q⟩
  | i :: is, v :: vs, σ, h, q => ⟨v, vs, rfl, gNames_run (is := is) (by simpa using h) q⟩
  | [], _ :: _, _, h, _ => by cases h
  | _ :: _, [], _, h, _ => by cases h
theorem setsD_len : ∀ {is : List Nat} {ds : List D} {δ δ2 : DEnv}, setsD is ds δ = some δ2 → ds.length = is.length
  | [], [], _, _, _ => rfl
  | i :: is, d :: ds, δ, δ2, h => by
    unfold setsD at h
    split at h
    · rw [List.length_cons, List.length_cons, setsD_len h]
    · cases h
  | [], _ :: _, _, _, h => by cases h
  | _ :: _, [], _, _, h => by cases h
theorem tg_tup {es : List Expr} {is : List Nat} {k : Nat} {pos : Pos} (t : TgsOk S es is) (hn : ∀ env, (assignEach es env).length = is.length) (hst : ∀ env, (assignEach es env).findIdx? (·.1) = none) : TgOk S (.Tuple es k pos) (.tup is) :=
  ⟨L2.gTup S.K is.length (gNames is), fun X hX => (by have := pg_tup (X := X) (k := k) (pos := pos) (n := is.length) hX.calm (t.pgs hX) (hn _) (hst _); rw [hX.K] at this; exact this), fun v d σ H Q δ δ2 r h q => by
    cases d with
    | tuple ds =>
      obtain ⟨a, vs, rfl, hp, s⟩ := r.iTup
      have hl : vs.length = is.length := s.length.trans (setsD_len h)
      exact ⟨a, vs, rfl, hp, hl, gNames_run hl (q is vs ds rfl s h)⟩
    | _ => cases h⟩
/-! ### walks -/
structure ItOk (K : PySem.W.Frag) (J : It) (items : List D) (G : Hp → Prop) : Prop where
  go : ∀ i H, i < items.length → G H → J.go i H
  stop : ∀ H, G H → J.stop items.length H
  yld : ∀ i H x H', i < items.length → G H → J.yld i H x H' → ∃ d, items[i]? = some d ∧ NewV K H x d H' []
/-- what keeps the walk going: its own objects and the slots of L stand -/
def Stays (G : Hp → Prop) (Fr : List Addr) (L : List Nat) (Fs : FT) : Prop := ∀ H1 H2 B, G H1 → Keep B H1 H2 → (∀ a, B a → a ∉ Fr ∧ ∀ l ∈ L, a ∉ Fs l) → G H2
def tBI (S : Sig) (tg iter : Expr) : TI := fun σ H R => ∃ wi, (∀ X, Fits S X → PI X tg iter wi) ∧ wi σ H R
theorem pi_tB {X : Cx} {tg iter : Expr} (h : Fits S X) : PI X tg iter (tBI S tg iter) := ⟨fun pins s σ H R I ⟨wi, hw, q⟩ => (hw X h).run pins s σ H R I q⟩
def DI (S : Sig) (tg iter : Expr) (L M : List Nat) (f : EM (List D)) : Prop :=
  ∀ (σ : L2.St) (H : Hp) (δ : DEnv) (Fs : FT) (R : It → Hp → Prop) (r : Out (List D)), EnvR S.K H σ δ Fs → Sep Fs [] → f δ = some r →
    (match r with
      | .ok items δ' => ∀ J H' Fs' Fr G, Post S.K M H δ Fs σ H' δ' Fs' Fr → ItOk S.K J items G → G H' → Stays G Fr L Fs' → R J H'
      | .ex x => XOk S H Fs x) → tBI S tg iter σ H R
/-- the items of a list, of a tuple, of a text -/
@[simp] def itemsD : D → Option (List D)
  | .list ds => if imms ds = true then some ds else none
  | .tuple ds => if imms ds = true then some ds else none
  | .str z => some (z.cps.toList.map fun c => .str ⟨#[c]⟩)
  | _ => none
@[simp] def cItems (f : EM D) : EM (List D) := EM.bind f fun d δ => match itemsD d with
  | some ds => some (.ok ds δ)
  | none => none
theorem it_list {K : PySem.W.Frag} {a : Addr} {vs : List V} {ds : List D} {G : Hp → Prop} (h : ∀ H, G H → SqL K H a vs ∧ Reps K H vs ds []) : ItOk K (Itl K a) ds G := by
  refine ⟨fun i H hi g => ?_, fun H g => ?_, fun i H x H' hi g y => ?_⟩
  · have hl := (h H g).2.length
    exact ⟨vs, vs[i], (h H g).1, by simp [show i < vs.length by omega]⟩
  · exact ⟨vs, (h H g).1, by rw [(h H g).2.length]; exact Nat.le_refl _⟩
  · obtain ⟨rfl, hx⟩ := y
    obtain ⟨d, F, h1, h2, h3⟩ := (h _ g).2.getV (hx vs (h _ g).1)
    have e : F = [] := List.eq_nil_iff_forall_not_mem.mpr fun a m => (nomatch h3 a m)
    subst e
    exact ⟨d, h1, .same h2⟩
theorem it_tup {K : PySem.W.Frag} {a : Addr} {vs : List V} {ds : List D} {G : Hp → Prop} (h : ∀ H, G H → SqT K H a vs ∧ Reps K H vs ds []) : ItOk K (Itt K a) ds G := by
  refine ⟨fun i H hi g => ?_, fun H g => ?_, fun i H x H' hi g y => ?_⟩
  · have hl := (h H g).2.length
    exact ⟨vs, vs[i], (h H g).1, by simp [show i < vs.length by omega]⟩
  · exact ⟨vs, (h H g).1, by rw [(h H g).2.length]; exact Nat.le_refl _⟩
  · obtain ⟨rfl, hx⟩ := y
    obtain ⟨d, F, h1, h2, h3⟩ := (h _ g).2.getV (hx vs (h _ g).1)
    have e : F = [] := List.eq_nil_iff_forall_not_mem.mpr fun a m => (nomatch h3 a m)
    subst e
    exact ⟨d, h1, .same h2⟩
theorem it_str {K : PySem.W.Frag} {z : Str} : ItOk K (Its z) (z.cps.toList.map fun c => PyData.str ⟨#[c]⟩) fun _ => True := by
  refine ⟨fun i H hi _ => by show i < z.cps.size; simpa using hi, fun H _ => by show z.cps.size ≤ _; simp, fun i H x H' hi _ y => ?_⟩
  obtain ⟨rfl, c, hc, rfl⟩ := y
  refine ⟨.str ⟨#[c]⟩, ?_, .same (.str _)⟩
  rw [List.getElem?_map]
  rw [Array.getElem?_toList, hc]
  rfl
theorem di_seq {tg e : Expr} {κ : Kd} {M : List Nat} {f : EM D} (h : DE S e κ M f) : DI S tg e (within κ) M (cItems f) := fun σ H δ Fs R r E s hf k => by
  rcases bind_some hf with ⟨d, δ1, h1, h2⟩ | ⟨x, h1, rfl⟩
  · cases e2 : itemsD d with
    | none => rw [e2] at h2; cases h2
    | some ds =>
      rw [e2] at h2
      cases h2
      have seq : ∀ {H1 : Hp} {Fs1 : FT} {F : List Addr} {v : V}, Post S.K M H δ Fs σ H1 δ1 Fs1 F → Opn S.K H1 σ δ1 Fs1 F κ v d → ∃ G, Rep S.K H1 v d G ∧ ∀ a ∈ G, a ∈ F ∨ ∃ l ∈ within κ, a ∈ Fs1 l := fun {H1 Fs1 F v} p o => by
        by_cases hκ : κ = .own
        · subst hκ; exact ⟨F, o, fun a m => .inl m⟩
        · obtain ⟨_, G, r, hw⟩ := o.within p.env hκ
          exact ⟨G, r, fun a m => .inr (hw a m)⟩
      unfold itemsD at e2
      split at e2
      · split at e2
        · rename_i hi
          cases e2
          refine ⟨iList S.K (tB S e), fun X hX => (by rw [← hX.K]; exact pi_list (pe_tB hX)), h σ H δ Fs _ _ E s h1 fun v H1 Fs1 F p o => ?_⟩
          obtain ⟨G, rp, hw⟩ := seq p o
          obtain ⟨a, vs, G', rfl, hp, rs, rfl⟩ := rp.iLst
          refine ⟨a, rfl, ⟨vs, sqL_of hp⟩, k _ H1 Fs1 F (fun H => H a = some (.lst vs) ∧ Reps S.K H vs _ []) p (it_list fun H g => ⟨sqL_of g.1, g.2⟩) ⟨hp, rs.imm' hi⟩ fun H2 H3 B g kp hB => ⟨kp a _ g.1 (.inl fun b => ?_), g.2.keep kp fun _ m => (nomatch m)⟩⟩
          rcases hw a List.mem_cons_self with m | ⟨l, hl, m⟩
          · exact (hB a b).1 m
          · exact (hB a b).2 l hl m
        · cases e2
      · split at e2
        · rename_i hi
          cases e2
          refine ⟨iTup S.K (tB S e), fun X hX => (by rw [← hX.K]; exact pi_tup (pe_tB hX)), h σ H δ Fs _ _ E s h1 fun v H1 Fs1 F p o => ?_⟩
          obtain ⟨G, rp, hw⟩ := seq p o
          obtain ⟨a, vs, rfl, hp, rs⟩ := rp.iTup
          exact ⟨a, rfl, ⟨vs, hp⟩, k _ H1 Fs1 F (fun H => SqT S.K H a vs ∧ Reps S.K H vs _ []) p (it_tup fun H g => g) ⟨hp, rs.imm' hi⟩ fun H2 H3 B g kp hB => ⟨kp.sqT g.1, g.2.keep kp fun _ m => (nomatch m)⟩⟩
        · cases e2
      · cases e2
        refine ⟨iStr (tB S e), fun X hX => pi_str (pe_tB hX), h σ H δ Fs _ _ E s h1 fun v H1 Fs1 F p o => ?_⟩
        obtain ⟨G, rp, hw⟩ := seq p o
        exact ⟨_, rp.iStr, k _ H1 Fs1 F (fun _ => True) p it_str trivial fun _ _ _ _ _ _ => trivial⟩
      · cases e2
  · exact ⟨iStr (tB S e), fun X hX => pi_str (pe_tB hX), h σ H δ Fs _ _ E s h1 k⟩
/-- range(b), range(a, b) -/
def rangeD (lo : Int) (n : Nat) : List D := (List.range n).map fun (i : Nat) => PyData.int (lo + (i : Int))
@[simp] def gRng1 : List D → Option (List D)
  | [.int j] => if -1000000000 ≤ j ∧ j ≤ 1000000000 then some (rangeD 0 j.toNat) else none
  | _ => none
@[simp] def gRng2 : List D → Option (List D)
  | [.int i, .int j] => if (-1000000000 ≤ i ∧ i ≤ 1000000000) ∧ -1000000000 ≤ j ∧ j ≤ 1000000000 then some (rangeD i (j - i).toNat) else none
  | _ => none
@[simp] def cRng (g : List D → Option (List D)) (f : EM (List D)) : EM (List D) := EM.bind f fun ds δ => match g ds with
  | some xs => some (.ok xs δ)
  | none => none
theorem it_range {K : PySem.W.Frag} {lo : Int} {n : Nat} : ItOk K (Itr lo n) (rangeD lo n) fun _ => True := by
  have hl : (rangeD lo n).length = n := by simp [rangeD]
  refine ⟨fun i H hi _ => by rw [hl] at hi; exact hi, fun H _ => by show n ≤ _; rw [hl]; exact Nat.le_refl _, fun i H x H' hi _ y => ?_⟩
  obtain ⟨rfl, rfl⟩ := y
  rw [hl] at hi
  exact ⟨.int (lo + i), by simp [rangeD, hi], .same (.int _)⟩
section
variable {a b : Expr} {κs : List Kd} {M : List Nat} {f : EM (List D)} {tg : Expr} {p pos : Pos}
theorem di_rng1 (n : BtS S "range") (hA : DA S [a] κs M f) (hp : Plain [a]) : DI S tg (.Call (.Name "range" p) [a] [] pos) [] M (cRng gRng1 f) := fun σ H δ Fs R r E s hf k => by
  have g : ∀ X, Fits S X → PI X tg (.Call (.Name "range" p) [a] [] pos) (iRng1 (tBA S [a])) := fun X hX => pi_range1 (n.g hX) (n.m hX) (pa_tB hX hp) (hp.1 _)
  refine ⟨_, g, ?_⟩
  rcases bind_some hf with ⟨ds, δ1, h1, h2⟩ | ⟨x, h1, rfl⟩
  · refine hA σ H δ Fs _ _ E s h1 fun vs H1 Fs1 Frs p o => ?_
    obtain ⟨F, rs⟩ := o.reps p.env
    cases e : gRng1 ds with
    | none => rw [e] at h2; cases h2
    | some xs =>
      rw [e] at h2
      cases h2
      unfold gRng1 at e
      split at e
      · split at e
        · rename_i hb
          cases e
          obtain ⟨v, _, rfl, r1⟩ := rs.i1
          exact ⟨_, by rw [r1.iInt], by omega, by omega, k _ H1 Fs1 [] (fun _ => True) p.dropR it_range trivial fun _ _ _ _ _ _ => trivial⟩
        · cases e
      · cases e
  · exact hA σ H δ Fs _ _ E s h1 k
theorem di_rng2 (n : BtS S "range") (hA : DA S [a, b] κs M f) (hp : Plain [a, b]) : DI S tg (.Call (.Name "range" p) [a, b] [] pos) [] M (cRng gRng2 f) := fun σ H δ Fs R r E s hf k => by
  have e1 : ∀ env, starEach [a, b] env = [(false, eval a env), (false, eval b env)] := fun env => by rw [hp.1, hp.2.1]; rfl
  have g : ∀ X, Fits S X → PI X tg (.Call (.Name "range" p) [a, b] [] pos) (iRng2 (tBA S [a, b])) := fun X hX => pi_range2 (n.g hX) (n.m hX) (pa_tB hX hp) (e1 _) (hp.2.1 _)
  refine ⟨_, g, ?_⟩
  rcases bind_some hf with ⟨ds, δ1, h1, h2⟩ | ⟨x, h1, rfl⟩
  · refine hA σ H δ Fs _ _ E s h1 fun vs H1 Fs1 Frs p o => ?_
    obtain ⟨F, rs⟩ := o.reps p.env
    cases e : gRng2 ds with
    | none => rw [e] at h2; cases h2
    | some xs =>
      rw [e] at h2
      cases h2
      unfold gRng2 at e
      split at e
      · split at e
        · rename_i hb
          cases e
          obtain ⟨v, w, _, _, rfl, r1, r2⟩ := rs.i2
          exact ⟨_, _, by rw [r1.iInt, r2.iInt], by omega, k _ H1 Fs1 [] (fun _ => True) p.dropR it_range trivial fun _ _ _ _ _ _ => trivial⟩
        · cases e
      · cases e
  · exact hA σ H δ Fs _ _ E s h1 k
end
/-! ### comprehensions -/
@[simp] def wipeD : List Nat → DEnv → DEnv
  | [], δ => δ
  | v :: vs, δ => (wipeD vs δ).set v none
/-- the places of vs as they were -/
@[simp] def backV (δ0 : DEnv) : List Nat → DEnv → DEnv
  | [], δ => δ
  | v :: vs, δ => (backV δ0 vs δ).set v ((δ0[v]?).join)
@[simp] def immAt (δ : DEnv) (v : Nat) : Bool := match δ[v]? with
  | some (some d) => imm d
  | _ => true
@[simp] def compL (vs : List Nat) (tg : Tg) (cond : EM Bool) (elt : EM D) : List D → EM (List D)
  | [] => fun δ => some (.ok [] δ)
  | d :: r => fun δ => match bindT tg d (wipeD vs δ) with
    | none => none
    | some δ1 => EM.bind cond (fun b => if b = true then EM.bind elt fun y => EM.bind (compL vs tg cond elt r) fun ys δ2 => some (.ok (y :: ys) δ2) else compL vs tg cond elt r) δ1
@[simp] def cComp (vs : List Nat) (tg : Tg) (f : EM (List D)) (cond : EM Bool) (elt : EM D) : EM D := EM.bind f fun items δ =>
  if (vs.all (immAt δ)) = true ∧ items.length ≤ 1000000 then
    match compL vs tg cond elt items δ with
    | some (.ok ys δ2) => some (.ok (.list ys) (backV δ vs δ2))
    | _ => none
  else none
@[simp] def cYes : EM Bool := fun δ => some (.ok true δ)
theorem wipeD_len (δ : DEnv) : ∀ vs : List Nat, (wipeD vs δ).length = δ.length
  | [] => rfl
  | v :: vs => by unfold wipeD; rw [List.length_set, wipeD_len δ vs]
theorem backV_len (δ0 δ : DEnv) : ∀ vs : List Nat, (backV δ0 vs δ).length = δ.length
  | [] => rfl
  | v :: vs => by unfold backV; rw [List.length_set, backV_len δ0 δ vs]
theorem wipeD_get {δ : DEnv} {i : Nat} : ∀ {vs : List Nat}, i ∉ vs → (wipeD vs δ)[i]? = δ[i]?
  | [], _ => rfl
  | v :: vs, h => by
    unfold wipeD
    rw [List.getElem?_set_ne (fun e => h (by simp [e])), wipeD_get fun m => h (List.mem_cons_of_mem _ m)]
theorem wipeD_in {δ : DEnv} {i : Nat} : ∀ {vs : List Nat}, i ∈ vs → ∀ d, (wipeD vs δ)[i]? ≠ some (some d)
  | [], h, _ => by cases h
  | v :: vs, h, d => by
    unfold wipeD
    by_cases q : v = i
    · subst q
      by_cases hv : v < (wipeD vs δ).length
      · rw [List.getElem?_set_self hv]; exact fun z => by cases z
      · rw [List.getElem?_eq_none (by simpa using hv)]; exact fun z => by cases z
    · rw [List.getElem?_set_ne q]
      exact wipeD_in (by rcases List.mem_cons.mp h with e | m; exact absurd e.symm q; exact m) d
theorem backV_get {δ0 δ : DEnv} {i : Nat} : ∀ {vs : List Nat}, i ∉ vs → (backV δ0 vs δ)[i]? = δ[i]?
  | [], _ => rfl
  | v :: vs, h => by
    unfold backV
    rw [List.getElem?_set_ne (fun e => h (by simp [e])), backV_get fun m => h (List.mem_cons_of_mem _ m)]
theorem backV_in {δ0 δ : DEnv} {i : Nat} (hl : i < δ.length) : ∀ {vs : List Nat}, i ∈ vs → (backV δ0 vs δ)[i]? = some ((δ0[i]?).join)
  | [], h => by cases h
  | v :: vs, h => by
    unfold backV
    by_cases q : v = i
    · subst q
      rw [List.getElem?_set_self (by rw [backV_len]; exact hl)]
    · rw [List.getElem?_set_ne q]
      exact backV_in hl (by rcases List.mem_cons.mp h with e | m; exact absurd e.symm q; exact m)
theorem wipe_get {σ : L2.St} {i : Nat} : ∀ {vs : List Nat}, i ∉ vs → (wipe σ vs)[i]? = σ[i]?
  | [], _ => rfl
  | v :: vs, h => by
    unfold wipe
    rw [List.getElem?_set_ne (fun e => h (by simp [e])), wipe_get fun m => h (List.mem_cons_of_mem _ m)]
theorem wipe_set {σ : L2.St} {i : Nat} {x : Option V} : ∀ {vs : List Nat}, i ∈ vs → wipe (σ.set i x) vs = wipe σ vs
  | [], h => by cases h
  | v :: vs, h => by
    unfold wipe
    by_cases hm : i ∈ vs
    · rw [wipe_set hm]
    · have e : i = v := by rcases List.mem_cons.mp h with e | m; exact e; exact absurd m hm
      subst e
      have comm : ∀ {ws : List Nat}, i ∉ ws → wipe (σ.set i x) ws = (wipe σ ws).set i x := fun {ws} => by
        induction ws with
        | nil => intro _; rfl
        | cons u us ih =>
          intro hn
          unfold wipe
          rw [ih fun m => hn (List.mem_cons_of_mem _ m), List.set_comm _ _ (fun e => hn (by simp [e]))]
      rw [comm hm, List.set_set]
theorem wipe_setsV : ∀ {is : List Nat} {vs : List V} {σ : L2.St} {ws : List Nat}, (∀ i ∈ is, i ∈ ws) → wipe (setsV is vs σ) ws = wipe σ ws
  | [], _, _, _, _ => by unfold setsV; rfl
  | _ :: _, [], _, _, _ => by unfold setsV; rfl
  | i :: is, v :: vs, σ, ws, h => by
    unfold setsV
    rw [wipe_setsV fun j m => h j (List.mem_cons_of_mem _ m), wipe_set (h i List.mem_cons_self)]
end DL
set_option maxHeartbeats 2000000
/-! DL9: comprehensions. -/
namespace DL
open PySem PySem.Spec PyProof.Rows L2
variable {S : Sig}
def subS (S : Sig) (scope : Scope) : Sig := { S with sc := relS scope S.sc, fn := fun x => scope.names.lookup x == some .cell, E := E0 }
theorem Fits.sub {X : Cx} (h : Fits S X) {scope : Scope} (s : Shared) (H : Hp) (C : Addr) (cl : List (Str × Addr)) (fp : List Addr) : Fits (subS S scope) (X.blk s H scope (compEnvC scope cl C X.env) fp) :=
  ⟨h.prog, h.w, h.K, h.mg, h.base, h.N, by show relS scope X.env.scope = relS scope S.sc; rw [h.sc], fun x e => e, h.room, h.calm, takes0, PassesOwn.never⟩
/-- the slots of vs forgotten -/
theorem Post.wipe {K : PySem.W.Frag} {M : List Nat} {H H1 : Hp} {δ δ1 : DEnv} {Fs Fs1 : FT} {σ1 : L2.St} {Fr : List Addr} (p : Post K M H δ Fs σ1 H1 δ1 Fs1 Fr) (vs : List Nat) : Post K (M ++ vs) H δ Fs (L2.wipe σ1 vs) H1 (wipeD vs δ1) (wipeF vs Fs1) Fr := by
  refine ⟨⟨?_, fun i d e => ?_, fun i h => ?_⟩, ⟨p.sep.ndr, fun i => ?_, fun i j n a m => ?_, fun i a m => ?_⟩, p.trk, fun i hi a m => ?_, fun a m => (p.subr a m).imp (fun z => z.mono fun i m => List.mem_append_left _ m) id, p.keep.imp fun a _ z => z.mono fun i m => List.mem_append_left _ m, fun i n => ?_⟩
  · rw [L2.wipe_length, wipeD_len]; exact p.env.len
  · by_cases hm : i ∈ vs
    · exact absurd e (wipeD_in hm d)
    · rw [wipeD_get hm] at e
      rw [wipe_get hm, wipeF_out hm]
      exact p.env.at i d e
  · by_cases hm : i ∈ vs
    · exact wipeF_in hm
    · rw [wipeF_out hm]
      exact p.env.no i fun d e => h d (by rw [wipeD_get hm]; exact e)
  · by_cases hm : i ∈ vs
    · rw [wipeF_in hm]; exact List.nodup_nil
    · rw [wipeF_out hm]; exact p.sep.nds i
  · by_cases hm : i ∈ vs
    · rw [wipeF_in hm] at m; cases m
    · rw [wipeF_out hm] at m
      by_cases hm' : j ∈ vs
      · rw [wipeF_in hm']; exact fun z => (nomatch z)
      · rw [wipeF_out hm']; exact p.sep.dis i j n a m
  · by_cases hm : i ∈ vs
    · rw [wipeF_in hm]; exact fun z => (nomatch z)
    · rw [wipeF_out hm]; exact p.sep.dir i a m
  · by_cases hm : i ∈ vs
    · rw [wipeF_in hm] at m; cases m
    · rw [wipeF_out hm] at m
      have hi' : i ∈ M := (List.mem_append.mp hi).resolve_right hm
      exact (p.sub i hi' a m).imp (fun z => z.mono fun i m => List.mem_append_left _ m) id
  · have n1 : i ∉ M := fun z => n (List.mem_append_left _ z)
    have n2 : i ∉ vs := fun z => n (List.mem_append_right _ z)
    exact ⟨(wipeF_out n2).trans (p.same i n1).1, (wipeD_get n2).trans (p.same i n1).2⟩
/-- a new owned object beside the others -/
theorem Post.newO {K : PySem.W.Frag} {M : List Nat} {H H1 : Hp} {δ δ1 : DEnv} {Fs Fs1 : FT} {σ : L2.St} {F : List Addr} {q : Addr} {o : HO} (p : Post K M H δ Fs σ H1 δ1 Fs1 F) (hq : H1 q = none) (ho : mutO o = true) : Post K M H δ Fs σ (upd H1 q o) δ1 Fs1 (F ++ [q]) := by
  have p2 := p.newT (o := o) hq
  have nq : ∀ a, (∃ o, H1 a = some o ∧ mutO o = true) → a ≠ q := fun a ⟨o, e, _⟩ z => by rw [z, hq] at e; cases e
  refine ⟨p2.env, ⟨List.nodup_append.mpr ⟨p.sep.ndr, by simp, fun a m b mb => ?_⟩, p2.sep.nds, p2.sep.dis, fun i a m => ?_⟩, fun a m => ?_, p2.sub, fun a m => ?_, p2.keep, p2.same⟩
  · have e : b = q := by simpa using mb
    subst e
    exact nq a (p.trk a m)
  · rcases List.mem_append.mp m with m | m
    · exact p.sep.dir i a m
    · have e : a = q := by simpa using m
      subst e
      exact fun z => nq a (p.env.trk z) rfl
  · rcases List.mem_append.mp m with m | m
    · exact p2.trk a m
    · have e : a = q := by simpa using m
      subst e
      exact ⟨_, upd_same, ho⟩
  · rcases List.mem_append.mp m with m | m
    · exact p.subr a m
    · have e : a = q := by simpa using m
      subst e
      exact p.old hq
/-- an owned temporary changes -/
theorem Post.updR {K : PySem.W.Frag} {M : List Nat} {H H1 : Hp} {δ δ1 : DEnv} {Fs Fs1 : FT} {σ : L2.St} {F : List Addr} {q : Addr} {o : HO} (p : Post K M H δ Fs σ H1 δ1 Fs1 F) (hq : q ∈ F) (ho : mutO o = true) : Post K M H δ Fs σ (upd H1 q o) δ1 Fs1 F := by
  have k1 : Keep (fun a => a = q) H1 (upd H1 q o) := .upd rfl fun u e => by
    obtain ⟨u', e', h⟩ := p.trk q hq
    rw [e] at e'; cases e'; exact h
  refine ⟨p.env.keep k1 fun i a m e => ?_, p.sep, fun a m => ?_, p.sub, p.subr, fun a u e c => ?_, p.same⟩
  · subst e; exact p.sep.dir i a hq m
  · by_cases e : a = q
    · subst e; exact ⟨_, upd_same, ho⟩
    · rw [upd_ne e]; exact p.trk a m
  · have e1 := p.keep a u e c
    by_cases h : a = q
    · subst h
      exfalso
      rcases p.subr a hq with z | z
      · rcases c with c | c
        · exact c z
        · obtain ⟨u', e', h⟩ := p.trk a hq
          rw [e1] at e'; cases e'
          rw [c] at h; cases h
      · rw [e] at z; cases z
    · rw [upd_ne h]; exact e1
/-- tests of a comprehension: none or one -/
def tBTs (S : Sig) (ifs : List Expr) : TT := fun σ H Q => ∃ t, (∀ X, Fits S X → PTs X ifs t) ∧ t σ H Q
def DTs (S : Sig) (ifs : List Expr) (M : List Nat) (f : EM Bool) : Prop :=
  ∀ (σ : L2.St) (H : Hp) (δ : DEnv) (Fs : FT) (Q : Bool → Hp → Prop) (b : Bool) (δ' : DEnv), EnvR S.K H σ δ Fs → Sep Fs [] → f δ = some (.ok b δ') →
    (∀ H' Fs', Post S.K M H δ Fs σ H' δ' Fs' [] → Q b H') → tBTs S ifs σ H Q
theorem pts_tB {X : Cx} {ifs : List Expr} (h : Fits S X) : PTs X ifs (tBTs S ifs) := ⟨fun pins s σ H Q I ⟨t, ht, q⟩ => (ht X h).run pins s σ H Q I q⟩
theorem dts_nil : DTs S [] [] cYes := fun σ H δ Fs Q b δ' E s hf k => by
  cases hf
  exact ⟨_, fun X _ => pts_nil, k H Fs (Post.refl E s)⟩
theorem dts_one {c : Expr} {M : List Nat} {f : EM Bool} (h : DT S c M f) : DTs S [c] M f := fun σ H δ Fs Q b δ' E s hf k => let ⟨t, ht, q⟩ := h σ H δ Fs Q _ E s hf k; ⟨t, fun X hX => pts_one (ht X hX), q⟩
theorem immAt_nil {K : PySem.W.Frag} {H : Hp} {σ : L2.St} {δ : DEnv} {Fs : FT} {v : Nat} (E : EnvR K H σ δ Fs) (h : immAt δ v = true) : Fs v = [] := by
  unfold immAt at h
  split at h
  · rename_i d e
    obtain ⟨w, _, r⟩ := E.at v d e
    exact r.imm h
  · rename_i hn
    exact E.no v fun d e => hn d e
theorem setsD_length : ∀ {is : List Nat} {ds : List D} {δ δ2 : DEnv}, setsD is ds δ = some δ2 → δ2.length = δ.length
  | [], [], _, _, h => by cases h; rfl
  | i :: is, d :: ds, δ, δ2, h => by
    unfold setsD at h
    split at h
    · rw [setsD_length h, List.length_set]
    · cases h
  | [], _ :: _, _, _, h => by cases h
  | _ :: _, [], _, _, h => by cases h
theorem bindT_ok {t : Tg} {d : D} {δ δ2 : DEnv} (h : bindT t d δ = some δ2) : ∃ ds, setsD t.slots ds δ = some δ2 := by
  cases t with
  | nm i => exact ⟨_, h⟩
  | tup is => cases d with
    | tuple ds => exact ⟨ds, h⟩
    | _ => cases h
theorem wipe_in {σ : L2.St} {i : Nat} (hl : i < σ.length) : ∀ {vs : List Nat}, i ∈ vs → (L2.wipe σ vs)[i]? = some none
  | [], h => by cases h
  | v :: vs, h => by
    show ((L2.wipe σ vs).set v none)[i]? = some none
    by_cases q : v = i
    · subst q
      rw [List.getElem?_set_self (by rw [L2.wipe_length]; exact hl)]
    · rw [List.getElem?_set_ne q]
      exact wipe_in hl (by rcases List.mem_cons.mp h with e | m; exact absurd e.symm q; exact m)
theorem wipe_wipe (σ : L2.St) (vs : List Nat) : L2.wipe (L2.wipe σ vs) vs = L2.wipe σ vs := by
  apply List.ext_getElem?
  intro i
  by_cases hm : i ∈ vs
  · by_cases hl : i < σ.length
    · rw [wipe_in (by rw [L2.wipe_length]; exact hl) hm, wipe_in hl hm]
    · rw [List.getElem?_eq_none (by rw [L2.wipe_length, L2.wipe_length]; omega), List.getElem?_eq_none (by rw [L2.wipe_length]; omega)]
  · rw [wipe_get hm]
theorem comp_read {elt tg iter : Expr} {ifs : List Expr} {scope : Scope} {vs : List Nat} {L M Mc Me : List Nat} {f : EM (List D)} {t : Tg} {cond : EM Bool} {ef : EM D} {g : TG}
    (tgq : ∀ v d σ H (Q : L2.St → Hp → Prop) δ δ2, Rep S.K H v d [] → bindT t d δ = some δ2 → (∀ is vs ds, t.slots = is → Reps S.K H vs ds [] → setsD is ds δ = some δ2 → Q (setsV is vs σ) H) → g v σ H Q)
    (hI : DI S tg iter L M f) (hts : ∀ i ∈ t.slots, i ∈ vs) (hc : DTs (subS S scope) ifs Mc cond) (he : DE (subS S scope) elt .own Me ef)
    (hL : ∀ l ∈ L, l ∉ vs ∧ l ∉ Mc ∧ l ∉ Me) (σ : L2.St) (H : Hp) (δ : DEnv) (Fs : FT) (Q : VK) (r : Out D) (E : EnvR S.K H σ δ Fs) (s : Sep Fs [])
    (k : match r with
      | .ok d δ' => ∀ v H' Fs' Fr, Post S.K (M ++ (Mc ++ Me)) H δ Fs σ H' δ' Fs' Fr → Opn S.K H' σ δ' Fs' Fr .own v d → Q v H'
      | .ex x => XOk S H Fs x) (hf : cComp vs t f cond ef δ = some r) : tLc (tBI S tg iter) g (tBTs (subS S scope) ifs) (tB (subS S scope) elt) vs σ H Q := by
  show tBI S tg iter σ H fun J H1 => ∀ D, H1 D = none → ∃ W : Nat → Nat → Hp → Prop, (∃ m, W 0 m (upd H1 D (.lst []))) ∧ ∀ i m H, W i m H →
    (J.stop i H ∧ Q (.ref D) H) ∨ (J.go i H ∧ ∃ Nx : Hp → Prop, (∀ H', Nx H' → ∃ m', m' < m ∧ W (i + 1) m' H') ∧ ∀ x H', J.yld i H x H' → g x (L2.wipe σ vs) H' fun σ2 H2 => L2.wipe σ2 vs = L2.wipe σ vs ∧ tBTs (subS S scope) ifs σ2 H2 fun b H3 =>
      if b = true then tB (subS S scope) elt σ2 H3 fun y H4 => ∃ acc, H4 D = some (.lst acc) ∧ acc.length < sizeLine ∧ Nx (upd H4 D (.lst (acc ++ [y]))) else Nx H3)
  rcases bind_some hf with ⟨items, δ1, h1, h2⟩ | ⟨x, h1, rfl⟩
  rotate_left
  · exact hI σ H δ Fs _ _ E s h1 k
  by_cases hcond : (vs.all (immAt δ1)) = true ∧ items.length ≤ 1000000
  rotate_left
  · rw [if_neg hcond] at h2; cases h2
  rw [if_pos hcond] at h2
  cases hcl : compL vs t cond ef items δ1 with
  | none => rw [hcl] at h2; cases h2
  | some out =>
    cases out with
    | ex x => rw [hcl] at h2; cases h2
    | ok ysF δF =>
      rw [hcl] at h2
      cases h2
      refine hI σ H δ Fs _ _ E s h1 fun J H1 Fs1 Fr G p ito g0 stays dd hdd => ?_
      have vnil : ∀ v ∈ vs, Fs1 v = [] := fun v m => immAt_nil p.env (List.all_eq_true.mp hcond.1 v m)
      have pw : Post S.K (M ++ vs) H δ Fs (L2.wipe σ vs) H1 (wipeD vs δ1) (wipeF vs Fs1) Fr := p.wipe vs
      have eF : wipeF vs Fs1 = Fs1 := by
        funext i
        by_cases m : i ∈ vs
        · rw [wipeF_in m, vnil i m]
        · rw [wipeF_out m]
      rw [eF] at pw
      let Mt := M ++ (vs ++ (Mc ++ Me))
      have ddn : ∀ a, H1 a ≠ none → a ≠ dd := fun a h e => h (by rw [e]; exact hdd)
      refine ⟨fun i m H' => m = items.length - i ∧ i ≤ items.length ∧ ∃ δ' Fs' vacc dacc F ys, Post S.K Mt H δ Fs (L2.wipe σ vs) H' (wipeD vs δ') Fs' (Fr ++ [dd] ++ F) ∧ H' dd = some (.lst vacc) ∧ Reps S.K H' vacc dacc F ∧ dacc.length ≤ i ∧
          compL vs t cond ef (items.drop i) δ' = some (.ok ys δF) ∧ dacc ++ ys = ysF ∧ G H' ∧ Keep (fun _ => True) H1 H' ∧ (∀ l ∈ L, Fs' l = Fs1 l) ∧ (∀ v ∈ vs, Fs' v = []) ∧ δ'.length = δ1.length, ⟨items.length, ?_⟩, ?_⟩
      · refine ⟨by simp, Nat.zero_le _, δ1, Fs1, [], [], [], ysF, ?_, upd_same, .nil, Nat.le_refl _, hcl, rfl, ?_, .new hdd, fun _ _ => rfl, vnil, rfl⟩
        · rw [List.append_nil]
          exact (pw.mono (M' := Mt) (fun i m => by
            rcases List.mem_append.mp m with m | m
            · exact List.mem_append_left _ m
            · exact List.mem_append_right _ (List.mem_append_left _ m))).newO hdd rfl
        · exact stays _ _ (fun _ => False) g0 (.new hdd) fun a b => b.elim
      · rintro i m H' ⟨rfl, hi, δ', Fs', vacc, dacc, F, ys, P, hD, hacc, hdl, hcomp, hys, hG, kp, hLs, hvn, hlen⟩
        by_cases hlt : i < items.length
        rotate_left
        · -- the end
          have ei : i = items.length := by omega
          subst ei
          rw [List.drop_length] at hcomp
          have hcomp : some (Out.ok ([] : List D) δ') = some (.ok ys δF) := hcomp
          cases hcomp
          rw [List.append_nil] at hys
          subst hys
          refine .inl ⟨ito.stop H' hG, ?_⟩
          have P2 : Post S.K Mt H δ Fs (L2.wipe σ vs) H' (wipeD vs δF) Fs' ([dd] ++ F) := ⟨P.env, (by rw [List.append_assoc] at P; exact P.sep.right), fun a m => P.trk a (by rw [List.append_assoc]; exact List.mem_append_right _ m), P.sub, fun a m => P.subr a (by rw [List.append_assoc]; exact List.mem_append_right _ m), P.keep, P.same⟩
          have inMt : ∀ a, InM Mt Fs a → InM (M ++ (Mc ++ Me)) Fs a := fun a ⟨j, hj, m⟩ => by
            rcases List.mem_append.mp hj with hj | hj
            · exact ⟨j, List.mem_append_left _ hj, m⟩
            · rcases List.mem_append.mp hj with hj | hj
              · by_cases hm : j ∈ M
                · exact ⟨j, List.mem_append_left _ hm, m⟩
                · rw [← (p.same j hm).1, vnil j hj] at m; cases m
              · exact ⟨j, List.mem_append_right _ hj, m⟩
          refine k (.ref dd) H' Fs' ([dd] ++ F) ⟨⟨?_, fun j dj e => ?_, fun j h => ?_⟩, P2.sep, P2.trk, fun j hj a m => ?_, fun a m => (P2.subr a m).imp (inMt a) id, P2.keep.imp fun a _ z => inMt a z, fun j hj => ?_⟩ (.lst hD hacc)
          · rw [backV_len]
            have := P.env.len
            rw [L2.wipe_length, wipeD_len] at this
            exact this
          · by_cases hm : j ∈ vs
            · have hjl : j < δF.length := by
                have h3 := (List.getElem?_eq_some_iff.mp e).1
                rwa [backV_len] at h3
              rw [backV_in hjl hm] at e
              have e2 : (δ1[j]?).join = some dj := Option.some.inj e
              have e3 : δ1[j]? = some (some dj) := by
                cases h : δ1[j]? with
                | none => rw [h] at e2; cases e2
                | some x => rw [h] at e2; exact congrArg some e2
              obtain ⟨v, hv, r⟩ := p.env.at j dj e3
              rw [vnil j hm] at r
              rw [hvn j hm]
              exact ⟨v, hv, r.keep kp fun _ m => (nomatch m)⟩
            · rw [backV_get hm] at e
              obtain ⟨v, hv, r⟩ := P.env.at j dj (by rw [wipeD_get hm]; exact e)
              rw [wipe_get hm] at hv
              exact ⟨v, hv, r⟩
          · by_cases hm : j ∈ vs
            · exact hvn j hm
            · exact P.env.no j fun d e => h d (by rw [backV_get hm]; rw [wipeD_get hm] at e; exact e)
          · have hj' : j ∈ Mt := by
              rcases List.mem_append.mp hj with h | h
              · exact List.mem_append_left _ h
              · exact List.mem_append_right _ (List.mem_append_right _ h)
            exact (P2.sub j hj' a m).imp (inMt a) id
          · have n1 : j ∉ M := fun z => hj (List.mem_append_left _ z)
            by_cases hm : j ∈ vs
            · refine ⟨by rw [hvn j hm, ← (p.same j n1).1, vnil j hm], ?_⟩
              rw [← (p.same j n1).2]
              by_cases hjl : j < δF.length
              · rw [backV_in hjl hm]
                rw [hlen] at hjl
                rw [List.getElem?_eq_getElem hjl]
                rfl
              · rw [List.getElem?_eq_none (by rw [backV_len]; omega), List.getElem?_eq_none (by omega)]
            · have n2 : j ∉ Mt := fun z => by
                rcases List.mem_append.mp z with z | z
                · exact n1 z
                · rcases List.mem_append.mp z with z | z
                  · exact hm z
                  · exact hj (List.mem_append_right _ z)
              refine ⟨(P.same j n2).1, ?_⟩
              rw [backV_get hm, ← (P.same j n2).2, wipeD_get hm]
        · -- a turn
          have hdrop : items.drop i = items[i] :: items.drop (i + 1) := List.drop_eq_getElem_cons hlt
          rw [hdrop] at hcomp
          unfold compL at hcomp
          cases hb : bindT t items[i] (wipeD vs δ') with
          | none => rw [hb] at hcomp; cases hcomp
          | some δb =>
            rw [hb] at hcomp
            simp only at hcomp
            rcases bind_some hcomp with ⟨b, δc, hc1, hc2⟩ | ⟨x, _, hx⟩
            rotate_left
            · cases hx
            -- what a turn leaves
            refine .inr ⟨ito.go i H' hlt hG, fun H'' => ∃ δ' Fs' vacc dacc F ys, Post S.K Mt H δ Fs (L2.wipe σ vs) H'' (wipeD vs δ') Fs' (Fr ++ [dd] ++ F) ∧ H'' dd = some (.lst vacc) ∧ Reps S.K H'' vacc dacc F ∧ dacc.length ≤ i + 1 ∧
              compL vs t cond ef (items.drop (i + 1)) δ' = some (.ok ys δF) ∧ dacc ++ ys = ysF ∧ G H'' ∧ Keep (fun _ => True) H1 H'' ∧ (∀ l ∈ L, Fs' l = Fs1 l) ∧ (∀ v ∈ vs, Fs' v = []) ∧ δ'.length = δ1.length, fun H'' hN => ?_, fun x Hy hy => ?_⟩
            · exact ⟨items.length - (i + 1), by omega, rfl, hlt, hN⟩
            obtain ⟨dx, hdx, nv⟩ := ito.yld i H' x Hy hlt hG hy
            have edx : items[i] = dx := by
              rw [List.getElem?_eq_getElem hlt] at hdx
              exact Option.some.inj hdx
            rw [edx] at hb
            -- the item's step keeps all
            have Py : Post S.K Mt H δ Fs (L2.wipe σ vs) Hy (wipeD vs δ') Fs' (Fr ++ [dd] ++ F) := by
              have p0 : Post S.K [] H' (wipeD vs δ') Fs' (L2.wipe σ vs) Hy (wipeD vs δ') Fs' [] := ⟨P.env.keep nv.keep fun _ _ _ h => h, P.sep0, fun _ m => (nomatch m), fun _ m => (nomatch m), fun _ m => (nomatch m), nv.keep.imp fun _ _ h => h.elim, fun _ _ => ⟨rfl, rfl⟩⟩
              have := P.comp p0
              rw [List.append_nil, List.append_nil] at this
              exact this
            have keepT : ∀ {B' : Addr → Prop} {Ha Hb : Hp}, Keep B' Ha Hb → (∀ a, B' a → a ∉ (Fr ++ [dd] ++ F)) → Ha dd = some (.lst vacc) ∧ Reps S.K Ha vacc dacc F → Hb dd = some (.lst vacc) ∧ Reps S.K Hb vacc dacc F := fun {B' Ha Hb} kk hn ⟨e1, e2⟩ =>
              ⟨kk dd _ e1 (.inl fun b => hn dd b (by simp)), e2.keep kk fun a m b => hn a b (by simp [m])⟩
            refine tgq x dx _ Hy _ _ _ nv.rep hb fun is vsx ds his rps hset => ?_
            have Pb := Post.sets Py rps hset
            generalize hFsb : wipeF is Fs' = Fsb at Pb
            have hsub : ∀ j ∈ is, j ∈ vs := fun j m => hts j (by rw [his]; exact m)
            have wσ : L2.wipe (setsV is vsx (L2.wipe σ vs)) vs = L2.wipe σ vs := by
              rw [wipe_setsV hsub]
              exact wipe_wipe σ vs
            refine ⟨wσ, ?_⟩
            refine hc (setsV is vsx (L2.wipe σ vs)) Hy δb Fsb _ b δc Pb.env Pb.sep0 hc1 fun H3 Fs3 pc => ?_
            have Pc := Pb.comp pc
            rw [List.append_nil] at Pc
            have noT1 : ∀ a, InM Mc Fsb a → a ∉ (Fr ++ [dd] ++ F) := fun a ⟨j, _, m⟩ z => Pb.sep.dir j a z m
            have t0 := keepT nv.keep (fun _ h => h.elim) ⟨hD, hacc⟩
            have t1 := keepT pc.keep noT1 t0
            have hLb : ∀ l ∈ L, Fsb l = Fs1 l := fun l m => by
              rw [← hFsb, wipeF_out fun z => (hL l m).1 (hsub l z)]
              exact hLs l m
            have hLc : ∀ l ∈ L, Fs3 l = Fs1 l := fun l m => ((pc.same l (hL l m).2.1).1).trans (hLb l m)
            have frFr : ∀ {a}, a ∈ Fr → a ∈ (Fr ++ [dd] ++ F) := fun m => by simp [m]
            have G3 : G H3 := stays _ _ (InM Mc Fsb) (stays _ _ (fun _ => False) hG nv.keep fun _ b => b.elim) pc.keep fun a ⟨j, hj, m⟩ => ⟨fun z => Pb.sep.dir j a (frFr z) m, fun l hl z => by
              rw [← hLb l hl] at z
              by_cases e : j = l
              · subst e; exact (hL j hl).2.1 hj
              · exact Pb.sep.dis j l e a m z⟩
            have kp3 : Keep (fun _ => True) H1 H3 := kp.trans ((nv.keep.imp (B' := fun _ => True) fun _ _ _ => trivial).trans (pc.keep.imp (B' := fun _ => True) fun _ _ _ => trivial) (fun _ _ h => h) fun _ _ h => h) (fun _ _ h => h) fun _ _ h => h
            have len3 : δc.length = δ1.length := by
              rw [← hlen, ← wipeD_len δ' vs, ← setsD_length hset, ← Pb.env.len, Pc.env.len]
            have mset : ∀ {M' : List Nat}, (∀ j ∈ M', j ∈ Mc ∨ j ∈ Me) → ∀ j ∈ (Mt ++ is ++ M') ++ vs, j ∈ Mt := fun {M'} hM j m => by
              rcases List.mem_append.mp m with m | m
              · rcases List.mem_append.mp m with m | m
                · rcases List.mem_append.mp m with m | m
                  · exact m
                  · exact List.mem_append_right _ (List.mem_append_left _ (hsub j m))
                · exact List.mem_append_right _ (List.mem_append_right _ (List.mem_append.mpr (hM j m)))
              · exact List.mem_append_right _ (List.mem_append_left _ m)
            cases b with
            | false =>
              rw [if_neg Bool.false_ne_true] at hc2
              refine iteF ⟨δc, wipeF vs Fs3, vacc, dacc, F, ys, ?_, t1.1, t1.2, Nat.le_succ_of_le hdl, hc2, hys, G3, kp3, fun l hl => by rw [wipeF_out (hL l hl).1]; exact hLc l hl, fun v m => wipeF_in m, len3⟩
              have := (Pc.wipe vs).mono (M' := Mt) (mset fun j m => .inl m)
              rw [wσ] at this
              exact this
            | true =>
              rw [if_pos rfl] at hc2
              rcases bind_some hc2 with ⟨y, δd, hd1, hd2⟩ | ⟨x, _, hx⟩
              · rcases bind_some hd2 with ⟨yr, δr, hr1, hr2⟩ | ⟨x, _, hx⟩
                · cases hr2
                  refine iteT (he (setsV is vsx (L2.wipe σ vs)) H3 δc Fs3 _ _ Pc.env Pc.sep0 hd1 fun vy H4 Fs4 Fy pe o => ?_)
                  have P4 := Pc.comp pe
                  have noT2 : ∀ a, InM Me Fs3 a → a ∉ (Fr ++ [dd] ++ F) := fun a ⟨j, _, m⟩ z => Pc.sep.dir j a z m
                  obtain ⟨t2, t3⟩ := keepT pe.keep noT2 t1
                  have hdl4 : dacc.length < 1000000 := by omega
                  refine ⟨vacc, t2, by rw [t3.length]; exact lim_lt hdl4, δd, wipeF vs Fs4, vacc ++ [vy], dacc ++ [y], F ++ Fy, yr, ?_, upd_same, ?_, by rw [List.length_append]; exact Nat.succ_le_succ hdl, hr1, by rw [List.append_assoc]; exact hys, ?_, ?_, fun l hl => ?_, fun v m => wipeF_in m, ?_⟩
                  · have P5 := P4.updR (q := dd) (o := .lst (vacc ++ [vy])) (by simp) rfl
                    have := (P5.wipe vs).mono (M' := Mt) (by
                      have := mset (M' := Mc ++ Me) fun j m => List.mem_append.mp m
                      intro j m
                      exact this j (by simpa [List.append_assoc] using m))
                    rw [wσ] at this
                    have e : Fr ++ [dd] ++ F ++ Fy = Fr ++ [dd] ++ (F ++ Fy) := List.append_assoc _ _ _
                    rw [e] at this
                    exact this
                  · have nd4 := P4.sep.ndr
                    have ndd : dd ∉ F ++ Fy := fun m => by
                      have e : Fr ++ [dd] ++ F ++ Fy = Fr ++ (dd :: (F ++ Fy)) := by simp
                      rw [e] at nd4
                      exact (List.nodup_cons.mp (List.nodup_append.mp nd4).2.1).1 m
                    have k2 : Keep (fun a => a = dd) H4 (upd H4 dd (.lst (vacc ++ [vy]))) := .upd rfl fun u e => by
                      rw [t2] at e; cases e; rfl
                    have r1 : Reps S.K H4 (vacc ++ [vy]) (dacc ++ [y]) (F ++ (Fy ++ [])) := t3.append (.cons o .nil)
                    rw [List.append_nil] at r1
                    exact r1.keep k2 fun a m e => ndd (e ▸ m)
                  · have G4 : G H4 := stays _ _ (InM Me Fs3) G3 pe.keep fun a ⟨j, hj, m⟩ => ⟨fun z => Pc.sep.dir j a (frFr z) m, fun l hl z => by
                      rw [← hLc l hl] at z
                      by_cases e : j = l
                      · subst e; exact (hL j hl).2.2 hj
                      · exact Pc.sep.dis j l e a m z⟩
                    refine stays _ _ (fun a => a = dd) G4 (.upd rfl fun u e => by rw [t2] at e; cases e; rfl) fun a e => ?_
                    subst e
                    refine ⟨fun z => ?_, fun l hl z => ?_⟩
                    · have nd0 := P.sep.ndr
                      have e : Fr ++ [a] ++ F = Fr ++ (a :: F) := by simp
                      rw [e] at nd0
                      exact (List.nodup_append.mp nd0).2.2 a z a List.mem_cons_self rfl
                    · rw [← hLs l hl] at z
                      exact P.sep.dir l a (by simp) z
                  · refine kp3.trans ((pe.keep.imp (B' := fun _ => True) fun _ _ _ => trivial).trans (Keep.upd (B := fun _ => True) trivial fun u e => by rw [t2] at e; cases e; rfl) (fun _ _ h => h) fun _ _ h => h) (fun _ _ h => h) fun _ _ h => h
                  · rw [wipeF_out (hL l hl).1]
                    exact ((pe.same l (hL l hl).2.2).1).trans (hLc l hl)
                  · rw [← len3, ← Pc.env.len, P4.env.len]
                · cases hx
              · cases hx
theorem de_comp {elt tg iter : Expr} {ifs : List Expr} {scope : Scope} {own : List (Str × Nat)} {pos : Pos} {L M Mc Me : List Nat} {f : EM (List D)} {t : Tg} {cond : EM Bool} {ef : EM D}
    (nd : S.N.Nodup) (hI : DI S tg iter L M f) (blk : BlkOk S.N S.sc scope own) (hs : ∀ env x, foldedSetIterable iter env x = pure x)
    (ht : TgOk (subS S scope) tg t) (hts : ∀ i ∈ t.slots, i ∈ own.map (·.2)) (hc : DTs (subS S scope) ifs Mc cond) (he : DE (subS S scope) elt .own Me ef)
    (hL : ∀ l ∈ L, l ∉ own.map (·.2) ∧ l ∉ Mc ∧ l ∉ Me) : DE S (.ListComp elt [⟨tg, iter, ifs, 0⟩] scope pos) .own (M ++ (Mc ++ Me)) (cComp (own.map (·.2)) t f cond ef) := fun σ H δ Fs Q r E s hf k => by
  obtain ⟨g, hg, tgq⟩ := ht.ex
  exact ⟨_, fun X hX => pe_lc hX.calm (by rw [hX.N]; exact nd) (pi_tB hX) (by rw [hX.N, hX.sc]; exact blk) (fun s H C cl fp => hg _ (hX.sub s H C cl fp)) (fun s H C cl fp => pts_tB (hX.sub s H C cl fp)) (fun s H C cl fp => pe_tB (hX.sub s H C cl fp)) (hs _),
    comp_read (S := S) (g := g) tgq hI hts hc he hL σ H δ Fs Q r E s k hf⟩
end DL
set_option maxHeartbeats 2000000
/-! DL10: statements. -/
namespace DL
open PySem PySem.Spec PyProof.Rows L2
variable {S : Sig}
inductive Fl where
  | nx | bk | ct | rt (d : D)
def tBS (S : Sig) (st : Stmt) : TS := fun D σ H => ∃ t, (∀ X, Fits S X → PS X st t) ∧ t D σ H
def tBSs (S : Sig) (sts : List Stmt) : TS := fun D σ H => ∃ t, (∀ X, Fits S X → PSs X sts t) ∧ t D σ H
theorem ps_tB {X : Cx} {st : Stmt} (h : Fits S X) : PS X st (tBS S st) := ⟨fun pins s σ H D I ⟨t, ht, q⟩ => (ht X h).run pins s σ H D I q⟩
theorem pss_tB {X : Cx} {st : List Stmt} (h : Fits S X) : PSs X st (tBSs S st) := ⟨fun pins s σ H D I ⟨t, ht, q⟩ => (ht X h).run pins s σ H D I q⟩
def SameA (A : List Nat) (σ σ' : L2.St) : Prop := ∀ i, i ∉ A → σ'[i]? = σ[i]?
theorem SameA.refl {A : List Nat} {σ : L2.St} : SameA A σ σ := fun _ _ => rfl
theorem SameA.trans {A B : List Nat} {σ σ1 σ2 : L2.St} (h : SameA A σ σ1) (g : SameA B σ1 σ2) : SameA (A ++ B) σ σ2 := fun i n => (g i fun m => n (List.mem_append_right _ m)).trans (h i fun m => n (List.mem_append_left _ m))
theorem SameA.mono {A B : List Nat} {σ σ1 : L2.St} (h : SameA A σ σ1) (s : ∀ i ∈ A, i ∈ B) : SameA B σ σ1 := fun i n => h i fun m => n (s i m)
def FlOk (S : Sig) (M A : List Nat) (σ : L2.St) (H : Hp) (δ : DEnv) (Fs : FT) (D : Ends) : Out Fl → Prop
  | .ok .nx δ' => ∀ σ' H' Fs', Post S.K M H δ Fs σ' H' δ' Fs' [] → SameA A σ σ' → D.nx σ' H'
  | .ok .bk δ' => ∀ σ' H' Fs', Post S.K M H δ Fs σ' H' δ' Fs' [] → SameA A σ σ' → D.bk σ' H'
  | .ok .ct δ' => ∀ σ' H' Fs', Post S.K M H δ Fs σ' H' δ' Fs' [] → SameA A σ σ' → D.ct σ' H'
  | .ok (.rt d) δ' => ∀ v σ' H' Fs' Fr, Post S.K M H δ Fs σ' H' δ' Fs' Fr → SameA A σ σ' → Rep S.K H' v d Fr → D.rt v H'
  | .ex x => XOk S H Fs x
theorem FlOk.mono {M M' A A' : List Nat} {σ : L2.St} {H : Hp} {δ : DEnv} {Fs : FT} {D : Ends} {r : Out Fl} (h : FlOk S M' A' σ H δ Fs D r) (s : ∀ i ∈ M, i ∈ M') (t : ∀ i ∈ A, i ∈ A') : FlOk S M A σ H δ Fs D r := by
  cases r with
  | ex x => exact h
  | ok f δ' => cases f with
    | nx => exact fun σ' H' Fs' p a => h σ' H' Fs' (p.mono s) (a.mono t)
    | bk => exact fun σ' H' Fs' p a => h σ' H' Fs' (p.mono s) (a.mono t)
    | ct => exact fun σ' H' Fs' p a => h σ' H' Fs' (p.mono s) (a.mono t)
    | rt d => exact fun v σ' H' Fs' Fr p a r => h v σ' H' Fs' Fr (p.mono s) (a.mono t) r
theorem FlOk.step {M1 M2 A1 A2 : List Nat} {σ σ1 : L2.St} {H H1 : Hp} {δ δ1 : DEnv} {Fs Fs1 : FT} {D : Ends} {r : Out Fl} (h : FlOk S (M1 ++ M2) (A1 ++ A2) σ H δ Fs D r) (p : Post S.K M1 H δ Fs σ1 H1 δ1 Fs1 []) (a : SameA A1 σ σ1) : FlOk S M2 A2 σ1 H1 δ1 Fs1 D r := by
  cases r with
  | ex x => exact XOk.post h p
  | ok f δ' => cases f with
    | nx => exact fun σ' H' Fs' p' a' => h σ' H' Fs' (p.comp p') (a.trans a')
    | bk => exact fun σ' H' Fs' p' a' => h σ' H' Fs' (p.comp p') (a.trans a')
    | ct => exact fun σ' H' Fs' p' a' => h σ' H' Fs' (p.comp p') (a.trans a')
    | rt d => exact fun v σ' H' Fs' Fr p' a' r => h v σ' H' Fs' Fr (p.comp p') (a.trans a') r
def DS (S : Sig) (st : Stmt) (M A : List Nat) (g : EM Fl) : Prop := ∀ (σ : L2.St) (H : Hp) (δ : DEnv) (Fs : FT) (D : Ends) (r : Out Fl), EnvR S.K H σ δ Fs → Sep Fs [] → g δ = some r → FlOk S M A σ H δ Fs D r → tBS S st D σ H
def DSs (S : Sig) (sts : List Stmt) (M A : List Nat) (g : EM Fl) : Prop := ∀ (σ : L2.St) (H : Hp) (δ : DEnv) (Fs : FT) (D : Ends) (r : Out Fl), EnvR S.K H σ δ Fs → Sep Fs [] → g δ = some r → FlOk S M A σ H δ Fs D r → tBSs S sts D σ H
@[simp] def cNx : EM Fl := fun δ => some (.ok .nx δ)
@[simp] def cSeq (f g : EM Fl) : EM Fl := fun δ => match f δ with
  | some (.ok .nx δ1) => g δ1
  | r => r
theorem dss_nil : DSs S [] [] [] cNx := fun σ H δ Fs D r E s hf k => by
  cases hf
  exact ⟨_, fun X _ => pss_nil, k σ H Fs (Post.refl E s) .refl⟩
theorem dss_cons {st : Stmt} {rest : List Stmt} {M1 M2 A1 A2 : List Nat} {f g : EM Fl} (h1 : DS S st M1 A1 f) (h2 : DSs S rest M2 A2 g) : DSs S (st :: rest) (M1 ++ M2) (A1 ++ A2) (cSeq f g) := fun σ H δ Fs D r E s hf k => by
  refine ⟨_, fun X hX => pss_cons (ps_tB hX) (pss_tB hX), ?_⟩
  show tBS S st { D with nx := tBSs S rest D } σ H
  unfold cSeq at hf
  have inl : ∀ i ∈ M1, i ∈ M1 ++ M2 := fun i m => List.mem_append_left _ m
  have inl' : ∀ i ∈ A1, i ∈ A1 ++ A2 := fun i m => List.mem_append_left _ m
  cases e : f δ with
  | none => rw [e] at hf; cases hf
  | some r1 =>
    rw [e] at hf
    cases r1 with
    | ex x => cases hf; exact h1 σ H δ Fs _ _ E s e k
    | ok fl δ1 => cases fl with
      | nx => exact h1 σ H δ Fs _ _ E s e fun σ1 H1 Fs1 p a => h2 σ1 H1 δ1 Fs1 D r p.env p.sep hf (k.step p a)
      | bk => cases hf; exact h1 σ H δ Fs _ _ E s e fun σ1 H1 Fs1 p a => k σ1 H1 Fs1 (p.mono inl) (a.mono inl')
      | ct => cases hf; exact h1 σ H δ Fs _ _ E s e fun σ1 H1 Fs1 p a => k σ1 H1 Fs1 (p.mono inl) (a.mono inl')
      | rt d => cases hf; exact h1 σ H δ Fs _ _ E s e fun v σ1 H1 Fs1 Fr p a rp => k v σ1 H1 Fs1 Fr (p.mono inl) (a.mono inl') rp
section
variable {e c : Expr} {pos : Pos} {κ : Kd} {M M1 M2 M3 A1 A2 : List Nat} {f : EM D}
@[simp] def cRet (f : EM D) : EM Fl := EM.bind f fun d δ => some (.ok (.rt d) δ)
theorem ds_ret (h : DE S e .own M f) : DS S (.Return (some e) pos) M [] (cRet f) := fun σ H δ Fs D r E s hf k => by
  refine ⟨_, fun X hX => ps_ret (pe_tB hX), ?_⟩
  show tB S e σ H D.rt
  rcases bind_some hf with ⟨d, δ1, h1, h2⟩ | ⟨x, h1, rfl⟩
  · cases h2
    exact h σ H δ Fs _ _ E s h1 fun v H1 Fs1 F p o => k v σ H1 Fs1 F p .refl o
  · exact h σ H δ Fs _ _ E s h1 k
@[simp] def cRetN : EM Fl := fun δ => some (.ok (.rt .none) δ)
theorem ds_retN : DS S (.Return none pos) [] [] cRetN := fun σ H δ Fs D r E s hf k => by
  cases hf
  exact ⟨_, fun X hX => ps_retN, k .non σ H Fs [] (Post.refl E s) .refl .non⟩
theorem ds_pass : DS S (.Pass pos) [] [] cNx := fun σ H δ Fs D r E s hf k => by
  cases hf
  exact ⟨_, fun X hX => ps_pass, k σ H Fs (Post.refl E s) .refl⟩
@[simp] def cBk : EM Fl := fun δ => some (.ok .bk δ)
@[simp] def cCt : EM Fl := fun δ => some (.ok .ct δ)
theorem ds_break : DS S (.Break pos) [] [] cBk := fun σ H δ Fs D r E s hf k => by
  cases hf
  exact ⟨_, fun X hX => ps_break, k σ H Fs (Post.refl E s) .refl⟩
theorem ds_continue : DS S (.Continue pos) [] [] cCt := fun σ H δ Fs D r E s hf k => by
  cases hf
  exact ⟨_, fun X hX => ps_continue, k σ H Fs (Post.refl E s) .refl⟩
@[simp] def cDrop (f : EM D) : EM Fl := EM.bind f fun _ δ => some (.ok .nx δ)
theorem ds_expr (h : DE S e κ M f) (hs : ∀ env, swapsWith e none pos.line env = pure false) : DS S (.Expr e pos) M [] (cDrop f) := fun σ H δ Fs D r E s hf k => by
  refine ⟨_, fun X hX => ps_expr (pe_tB hX) (hs _), ?_⟩
  show tB S e σ H fun _ H1 => D.nx σ H1
  rcases bind_some hf with ⟨d, δ1, h1, h2⟩ | ⟨x, h1, rfl⟩
  · cases h2
    exact h σ H δ Fs _ _ E s h1 fun v H1 Fs1 F p o => k σ H1 Fs1 p.dropR .refl
  · exact h σ H δ Fs _ _ E s h1 k
@[simp] def cIfS (t : EM Bool) (f g : EM Fl) : EM Fl := EM.bind t fun b => if b = true then f else g
theorem ds_if {a b : List Stmt} {t : EM Bool} {f g : EM Fl} (ht : DT S c M1 t) (hf' : DSs S a M2 A1 f) (hg : DSs S b M3 A2 g) : DS S (.If c a b pos) (M1 ++ (M2 ++ M3)) (A1 ++ A2) (cIfS t f g) := fun σ H δ Fs D r E s hf k => by
  refine ⟨_, fun X hX => ps_if (pt_tB hX) (pss_tB hX) (pss_tB hX), ?_⟩
  show tBT S c σ H fun b' H1 => if b' = true then tBSs S a D σ H1 else tBSs S b D σ H1
  rcases bind_some hf with ⟨d, δ1, h1, h2⟩ | ⟨x, h1, rfl⟩
  · refine ht σ H δ Fs _ _ E s h1 fun H1 Fs1 p => ?_
    have k1 : FlOk S (M2 ++ M3) (A1 ++ A2) σ H1 δ1 Fs1 D r := FlOk.step (A1 := []) k p .refl
    cases d with
    | true =>
      rw [if_pos rfl] at h2
      exact iteT (hf' σ H1 δ1 Fs1 D r p.env p.sep h2 (k1.mono (fun i m => List.mem_append_left _ m) fun i m => List.mem_append_left _ m))
    | false =>
      rw [if_neg Bool.false_ne_true] at h2
      exact iteF (hg σ H1 δ1 Fs1 D r p.env p.sep h2 (k1.mono (fun i m => List.mem_append_right _ m) fun i m => List.mem_append_right _ m))
  · exact ht σ H δ Fs _ _ E s h1 k
/-! ### assignments -/
@[simp] def cAsg (i : Nat) (f : EM D) : EM Fl := EM.bind f fun d δ => if i < δ.length then some (.ok .nx (δ.set i (some d))) else none
theorem SameA.set {σ : L2.St} {i : Nat} {x : Option V} : SameA [i] σ (σ.set i x) := fun j n => List.getElem?_set_ne fun e => n (by simp [e])
theorem ds_asg {i : Nat} {x : Str} {p' : Pos} (n : NmT S i x) (h : DE S e .own M f) (hs : ∀ env, swapsWith e (some (.Name x p')) pos.line env = pure false) : DS S (.Assign [.Name x p'] e pos) (M ++ [i]) [i] (cAsg i f) := fun σ H δ Fs D r E s hf k => by
  refine ⟨_, fun X hX => ps_set (by rw [hX.N]; exact n.nd) (by rw [hX.N]; exact n.hN) (by rw [hX.sc]; exact n.loc) (pe_tB hX) (hs _) (by rw [hX.sc]; exact n.fn.imp (hX.fn x) id), ?_⟩
  show tB S e σ H fun v H1 => D.nx (σ.set i (some v)) H1
  rcases bind_some hf with ⟨d, δ1, h1, h2⟩ | ⟨x, h1, rfl⟩
  · by_cases hi : i < δ1.length
    · rw [if_pos hi] at h2
      cases h2
      exact h σ H δ Fs _ _ E s h1 fun v H1 Fs1 F p o => k _ H1 _ (Post.set (F := []) (G := F) p hi o) .set
    · rw [if_neg hi] at h2; cases h2
  · exact h σ H δ Fs _ _ E s h1 k
/-- y = [..] -/
theorem ds_asgLc {elt tg iter : Expr} {ifs : List Expr} {scope : Scope} {own : List (Str × Nat)} {L M Mc Me : List Nat} {f : EM (List D)} {t : Tg} {cond : EM Bool} {ef : EM D} {i : Nat} {x : Str} {p' lpos : Pos} (n : NmT S i x) (hxl : S.sc.names.lookup x = some .local)
    (hsw : ∀ env, env.scope = S.sc → swapsWith (.ListComp elt [⟨tg, iter, ifs, 0⟩] scope lpos) (some (.Name x p')) pos.line env = pure true)
    (hI : DI S tg iter L M f) (blk : BlkOk S.N S.sc scope own) (hs : ∀ env x, foldedSetIterable iter env x = pure x)
    (ht : TgOk (subS S scope) tg t) (hts : ∀ i ∈ t.slots, i ∈ own.map (·.2)) (hc : DTs (subS S scope) ifs Mc cond) (he : DE (subS S scope) elt .own Me ef)
    (hL : ∀ l ∈ L, l ∉ own.map (·.2) ∧ l ∉ Mc ∧ l ∉ Me) : DS S (.Assign [.Name x p'] (.ListComp elt [⟨tg, iter, ifs, 0⟩] scope lpos) pos) ((M ++ (Mc ++ Me)) ++ [i]) [i] (cAsg i (cComp (own.map (·.2)) t f cond ef)) := fun σ H δ Fs D r E s hf k => by
  obtain ⟨g, hg, tgq⟩ := ht.ex
  refine ⟨_, fun X hX => ps_setLc (i := i) hX.calm (by rw [hX.N]; exact n.nd) (by rw [hX.N]; exact n.hN) (by rw [hX.sc]; exact hxl) (hsw _ hX.sc) (pi_tB hX) (by rw [hX.N, hX.sc]; exact blk) (fun s H C cl fp => hg _ (hX.sub s H C cl fp)) (fun s H C cl fp => pts_tB (hX.sub s H C cl fp)) (fun s H C cl fp => pe_tB (hX.sub s H C cl fp)) (hs _), ?_⟩
  show tLc (tBI S tg iter) g (tBTs (subS S scope) ifs) (tB (subS S scope) elt) (own.map (·.2)) σ H fun v H1 => D.nx (σ.set i (some v)) H1
  rcases bind_some hf with ⟨d, δ1, h1, h2⟩ | ⟨x, h1, rfl⟩
  · by_cases hi : i < δ1.length
    · rw [if_pos hi] at h2
      cases h2
      exact comp_read (S := S) (g := g) tgq hI hts hc he hL σ H δ Fs _ (.ok d δ1) E s (fun v H1 Fs1 F p o => k _ H1 _ (Post.set (F := []) (G := F) p hi o) .set) h1
    · rw [if_neg hi] at h2; cases h2
  · exact comp_read (S := S) (g := g) tgq hI hts hc he hL σ H δ Fs _ (.ex x) E s k h1
/-- a, b = e: the places take the parts, owned ones too -/
theorem Post.setsO {K : PySem.W.Frag} {H H1 : Hp} {δ : DEnv} {Fs : FT} {F : List Addr} : ∀ {is : List Nat} {vs : List V} {ds : List D} {G : List Addr} {M : List Nat} {σ1 : L2.St} {δ1 δ2 : DEnv} {Fs1 : FT}, Post K M H δ Fs σ1 H1 δ1 Fs1 (F ++ G) → Reps K H1 vs ds G → setsD is ds δ1 = some δ2 →
    ∃ Fs2, Post K (M ++ is) H δ Fs (setsV is vs σ1) H1 δ2 Fs2 F
  | [], _, [], G, M, σ1, δ1, δ2, Fs1, p, r, h => by
    cases h
    cases r
    rw [List.append_nil]
    rw [List.append_nil] at p
    exact ⟨_, p⟩
  | i :: is, vs, d :: ds, G, M, σ1, δ1, δ2, Fs1, p, r, h => by
    unfold setsD at h
    by_cases hi : i < δ1.length
    · rw [if_pos hi] at h
      cases r with
      | @cons v _ F1 vs _ G1 r1 rt =>
        -- the first part's footprint stands behind the others'
        have p' : Post K M H δ Fs σ1 H1 δ1 Fs1 ((F ++ G1) ++ F1) := by
          have perm : List.Perm (F ++ (F1 ++ G1)) ((F ++ G1) ++ F1) := by
            rw [List.append_assoc]
            exact List.Perm.append_left F List.perm_append_comm
          exact ⟨p.env, ⟨perm.nodup_iff.mp p.sep.ndr, p.sep.nds, p.sep.dis, fun i a m => p.sep.dir i a (perm.mem_iff.mpr m)⟩, fun a m => p.trk a (perm.mem_iff.mpr m), p.sub, fun a m => p.subr a (perm.mem_iff.mpr m), p.keep, p.same⟩
        have p2 := Post.set (F := F ++ G1) (G := F1) p' hi r1
        obtain ⟨Fs2, p3⟩ := Post.setsO p2 rt h
        exact ⟨Fs2, by rw [List.append_assoc] at p3; exact p3⟩
    · rw [if_neg hi] at h; cases h
  | [], _, _ :: _, _, _, _, _, _, _, _, _, h => by cases h
  | _ :: _, _, [], _, _, _, _, _, _, _, _, h => by cases h
theorem sameA_sets : ∀ {is : List Nat} {vs : List V} {σ : L2.St}, SameA is σ (setsV is vs σ)
  | [], _, σ => by unfold setsV; exact .refl
  | i :: is, [], σ => by unfold setsV; exact .refl
  | i :: is, v :: vs, σ => by
    unfold setsV
    exact (SameA.trans (A := [i]) (B := is) .set sameA_sets)
@[simp] def cAsgT (is : List Nat) (f : EM D) : EM Fl := EM.bind f fun d δ => match d with
  | .tuple ds => match setsD is ds δ with
    | some δ2 => some (.ok .nx δ2)
    | none => none
  | _ => none
theorem ds_asgT {es : List Expr} {is : List Nat} {n : Nat} {tpos : Pos} (t : TgsOk S es is) (hn : ∀ env, (assignEach es env).length = is.length) (hst : ∀ env, (assignEach es env).findIdx? (·.1) = none) (h : DE S e .own M f)
    (hs : ∀ env, swapsWithSole [.Tuple es n tpos] e pos.line env = pure false) (hw : ∀ env, swappedStores [.Tuple es n tpos] e env = pure none) : DS S (.Assign [.Tuple es n tpos] e pos) (M ++ is) is (cAsgT is f) := fun σ H δ Fs D r E s hf k => by
  refine ⟨_, fun X hX => (by have := ps_asg (pe_tB (S := S) hX) (pg_tup (pos := tpos) (k := n) (n := is.length) hX.calm (t.pgs hX) (hn _) (hst _)) (hs _) (hw _); rw [hX.K] at this; exact this), ?_⟩
  show tB S e σ H fun v H1 => ∃ a xs, v = .ref a ∧ SqT S.K H1 a xs ∧ xs.length = is.length ∧ gNames is xs σ H1 D.nx
  rcases bind_some hf with ⟨d, δ1, h1, h2⟩ | ⟨x, h1, rfl⟩
  · cases d with
    | tuple ds =>
      dsimp only at h2
      cases q : setsD is ds δ1 with
      | none => rw [q] at h2; cases h2
      | some δ2 =>
        rw [q] at h2
        cases h2
        refine h σ H δ Fs _ _ E s h1 fun v H1 Fs1 F p o => ?_
        obtain ⟨a, vs, rfl, hp, rs⟩ := Rep.iTup o
        have hl : vs.length = is.length := rs.length.trans (setsD_len q)
        obtain ⟨Fs2, p2⟩ := Post.setsO (F := []) p rs q
        exact ⟨a, vs, rfl, hp, hl, gNames_run hl (k _ H1 Fs2 p2 sameA_sets)⟩
    | _ => cases h2
  · exact h σ H δ Fs _ _ E s h1 k
/-- x += n -/
@[simp] def cAugI (i : Nat) (g : Int → Int → Int) (f : EM D) : EM Fl := fun δ => match δ[i]? with
  | some (some (.int a)) => EM.bind f (fun d δ1 => match d with
    | .int b => if i < δ1.length then some (.ok .nx (δ1.set i (some (.int (g a b))))) else none
    | _ => none) δ
  | _ => none
theorem ds_augI {i : Nat} {x : Str} {p' : Pos} {op : Operator} {g : Int → Int → Int} (n : NmT S i x) (hp : ∀ X, PIp X op (ipI g)) (h : DE S e κ M f) : DS S (.AugAssign (.Name x p') op e pos) (M ++ [i]) [i] (cAugI i g f) := fun σ H δ Fs D r E s hf k => by
  refine ⟨_, fun X hX => ps_aug (by rw [hX.N]; exact n.nd) (by rw [hX.N]; exact n.hN) (by rw [hX.sc]; exact n.loc) (pe_tB hX) (hp X) (by rw [hX.sc]; exact n.fn.imp (hX.fn x) id), ?_⟩
  show ∃ x, σ[i]? = some (some x) ∧ tB S e σ H fun y H1 => ipI g x y H1 fun z H2 => D.nx (σ.set i (some z)) H2
  unfold cAugI at hf
  split at hf
  · rename_i a ha
    obtain ⟨v, hv, r0⟩ := E.at i _ ha
    have ev := r0.iInt
    subst ev
    refine ⟨_, hv, ?_⟩
    rcases bind_some hf with ⟨d, δ1, h1, h2⟩ | ⟨x, h1, rfl⟩
    · cases d with
      | int b =>
        dsimp only at h2
        by_cases hi : i < δ1.length
        · rw [if_pos hi] at h2
          cases h2
          refine h σ H δ Fs _ _ E s h1 fun w H1 Fs1 F p o => ?_
          obtain ⟨G, rw'⟩ := o.rep p.env
          exact ⟨a, b, rfl, rw'.iInt, k _ H1 _ (Post.set (F := []) (G := []) p.dropR hi (.int _)) .set⟩
        · rw [if_neg hi] at h2; cases h2
      | _ => cases h2
    · exact h σ H δ Fs _ _ E s h1 k
  · cases hf
end
/-! ### lists and dicts of slots that change -/
/-- the slot j's object changes (G: what comes in, R: what goes out) -/
theorem Post.mut {K : PySem.W.Frag} {M : List Nat} {H H1 : Hp} {δ δ1 : DEnv} {Fs Fs1 : FT} {σ1 : L2.St} {F G G' R Gj : List Addr} {j : Nat} {a : Addr} {o : HO} {d' : D} (p : Post K M H δ Fs σ1 H1 δ1 Fs1 (F ++ G)) (hj : j < δ1.length) (hF : Fs1 j = a :: Gj) (hv : σ1[j]? = some (some (.ref a)))
    (ho : mutO o = true) (r : Rep K (upd H1 a o) (.ref a) d' (a :: G')) (sub : ∀ x ∈ R ++ G', x ∈ Gj ∨ x ∈ G) (nd : (R ++ (a :: G')).Nodup) : Post K (M ++ [j]) H δ Fs σ1 (upd H1 a o) (δ1.set j (some d')) (setF Fs1 j (a :: G')) (F ++ R) := by
  have aj : a ∈ Fs1 j := by rw [hF]; exact List.mem_cons_self
  have gj : ∀ x ∈ Gj, x ∈ Fs1 j := fun x m => by rw [hF]; exact List.mem_cons_of_mem _ m
  have k1 : Keep (fun x => x = a) H1 (upd H1 a o) := .upd rfl fun u e => by
    obtain ⟨u', e', h⟩ := p.env.trk aj
    rw [e] at e'; cases e'; exact h
  have ndF := List.nodup_append.mp p.sep.ndr
  have ndR := List.nodup_append.mp nd
  have src : ∀ x, x ∈ R ∨ x ∈ a :: G' → x ∈ Fs1 j ∨ x ∈ G := fun x m => by
    rcases m with m | m
    · exact (sub x (List.mem_append_left _ m)).imp (gj x) id
    · rcases List.mem_cons.mp m with e | m
      · subst e; exact .inl aj
      · exact (sub x (List.mem_append_right _ m)).imp (gj x) id
  have back : ∀ x, x ∈ Fs1 j ∨ x ∈ G → InM (M ++ [j]) Fs x ∨ H x = none := fun x m => by
    rcases m with m | m
    · by_cases hm : j ∈ M
      · exact (p.sub j hm x m).imp (fun z => z.mono fun i m => List.mem_append_left _ m) id
      · rw [(p.same j hm).1] at m
        exact .inl ⟨j, List.mem_append_right _ (by simp), m⟩
    · exact (p.subr x (List.mem_append_right _ m)).imp (fun z => z.mono fun i m => List.mem_append_left _ m) id
  have noF : ∀ x ∈ F, ¬ (x ∈ Fs1 j ∨ x ∈ G) := fun x m h => by
    rcases h with h | h
    · exact p.sep.dir j x (List.mem_append_left _ m) h
    · exact ndF.2.2 x m x h rfl
  have noI : ∀ i, i ≠ j → ∀ x ∈ Fs1 i, ¬ (x ∈ Fs1 j ∨ x ∈ G) := fun i n x m h => by
    rcases h with h | h
    · exact p.sep.dis i j n x m h
    · exact p.sep.dir i x (List.mem_append_right _ h) m
  refine ⟨⟨?_, fun i d e => ?_, fun i h => ?_⟩, ⟨List.nodup_append.mpr ⟨ndF.1, ndR.1, fun x m y m' e => ?_⟩, fun i => ?_, fun i l n x m => ?_, fun i x m => ?_⟩, fun x m => ?_, fun i hi x m => ?_, fun x m => ?_, fun x u e c => ?_, fun i n => ?_⟩
  · rw [List.length_set]; exact p.env.len
  · by_cases q : j = i
    · subst q
      rw [List.getElem?_set_self hj] at e
      cases e
      exact ⟨_, hv, by rw [setF_same]; exact r⟩
    · rw [List.getElem?_set_ne q] at e
      obtain ⟨v, h1, h2⟩ := p.env.at i d e
      rw [setF_ne (Ne.symm q)]
      exact ⟨v, h1, h2.keep k1 fun x m e => by subst e; exact p.sep.dis i j (Ne.symm q) x m aj⟩
  · by_cases q : j = i
    · subst q
      exact absurd (List.getElem?_set_self hj) (h d')
    · rw [setF_ne (Ne.symm q)]
      exact p.env.no i fun d e => h d (by rw [List.getElem?_set_ne q]; exact e)
  · subst e
    exact noF x m (src x (.inl m'))
  · by_cases q : i = j
    · rw [q, setF_same]; exact ndR.2.1
    · rw [setF_ne q]; exact p.sep.nds i
  · by_cases q : i = j
    · subst q
      rw [setF_same] at m
      rw [setF_ne (Ne.symm n)]
      exact fun z => noI l (Ne.symm n) x z (src x (.inr m))
    · rw [setF_ne q] at m
      by_cases q2 : l = j
      · subst q2
        rw [setF_same]
        exact fun z => noI i q x m (src x (.inr z))
      · rw [setF_ne q2]; exact p.sep.dis i l n x m
  · by_cases q : i = j
    · rw [q, setF_same]
      rcases List.mem_append.mp m with m | m
      · exact fun z => noF x m (src x (.inr z))
      · exact fun z => ndR.2.2 x m x z rfl
    · rw [setF_ne q]
      rcases List.mem_append.mp m with m | m
      · exact p.sep.dir i x (List.mem_append_left _ m)
      · exact fun z => noI i q x z (src x (.inl m))
  · have tr : ∃ u, H1 x = some u ∧ mutO u = true := by
      rcases List.mem_append.mp m with m | m
      · exact p.trk x (List.mem_append_left _ m)
      · rcases src x (.inl m) with h | h
        · exact p.env.trk h
        · exact p.trk x (List.mem_append_right _ h)
    by_cases e : x = a
    · subst e; exact ⟨_, upd_same, ho⟩
    · rw [upd_ne e]; exact tr
  · by_cases q : i = j
    · subst q
      rw [setF_same] at m
      exact back x (src x (.inr m))
    · rw [setF_ne q] at m
      have hi' : i ∈ M := by
        rcases List.mem_append.mp hi with h | h
        · exact h
        · exact absurd (by simpa using h) q
      exact (p.sub i hi' x m).imp (fun z => z.mono fun i m => List.mem_append_left _ m) id
  · rcases List.mem_append.mp m with m | m
    · exact (p.subr x (List.mem_append_left _ m)).imp (fun z => z.mono fun i m => List.mem_append_left _ m) id
    · exact back x (src x (.inl m))
  · have e1 := p.keep x u e (c.imp (fun n z => n (z.mono fun i m => List.mem_append_left _ m)) id)
    refine k1 x u e1 (c.imp (fun n z => ?_) id)
    subst z
    rcases back x (.inl aj) with h | h
    · exact n h
    · rw [e] at h; cases h
  · have n1 : i ∉ M := fun z => n (List.mem_append_left _ z)
    have n2 : i ≠ j := fun z => n (List.mem_append_right _ (by simp [z]))
    exact ⟨(setF_ne n2).trans (p.same i n1).1, (List.getElem?_set_ne (Ne.symm n2)).trans (p.same i n1).2⟩
end DL
set_option maxHeartbeats 2000000
/-! DL11: lists that change; loops; the rule of a def. -/
namespace DL
open PySem PySem.Spec PyProof.Rows L2
variable {S : Sig}
theorem slot_list {K : PySem.W.Frag} {H : Hp} {σ : L2.St} {δ : DEnv} {Fs : FT} {j : Nat} {ds : List D} (E : EnvR K H σ δ Fs) (e : δ[j]? = some (some (.list ds))) : ∃ a vs G, σ[j]? = some (some (.ref a)) ∧ H a = some (.lst vs) ∧ Reps K H vs ds G ∧ Fs j = a :: G := by
  obtain ⟨v, h1, r⟩ := E.at j _ e
  obtain ⟨a, vs, G, rfl, h2, h3, h4⟩ := r.iLst
  exact ⟨a, vs, G, h1, h2, h3, h4⟩
/-- list data of a slot -/
@[simp] def lstAt (δ : DEnv) (j : Nat) : Option (List D) := match δ[j]? with
  | some (some (.list ds)) => some ds
  | _ => none
theorem lstAt_some {δ : DEnv} {j : Nat} {ds : List D} (h : lstAt δ j = some ds) : δ[j]? = some (some (.list ds)) := by
  unfold lstAt at h
  split at h
  · rename_i e; cases h; exact e
  · cases h
section
variable {e i : Expr} {es : List Expr} {κ κ2 : Kd} {M M1 M2 : List Nat} {f g : EM D} {j : Nat} {x : Str} {p1 apos cpos spos pos tpos : Pos}
/-- a method of a list in a slot, by its rule -/
theorem f_lm {m : Str} {id : String} {r : V → List V → Hp → VK → Prop} (n : NmS S j x) (slot : PySem.Slot "list" m id) (hty : typeOf (.builtin id) = pure (.type "method_descriptor")) (hm : ∀ X, Fits S X → MtR X id r) (hp : Plain (e :: es))
    (hbase : ∀ env, attributeBase (.Name x p1) m env (eval (.Name x p1) env) = eval (.Name x p1) env)
    (hfew : ∀ env, ((backTo cpos (starEach (e :: es) env)).all (fun x => !x.1) && (backToKw cpos (keywordEach [] env)).all (fun x => x.1.isSome) && decide ((e :: es).length + ([] : List Keyword).length + (if ([] : List Keyword).isEmpty then 0 else 1) < 30)) = true)
    (hline : (apos.endLine == cpos.line) = true) : ∀ X, Fits S X → PE X (.Call (.Attribute (.Name x p1) m apos) (e :: es) [] cpos) (tBM S.K "list" r (tVar j) (tBA S (e :: es))) := fun X hX => by
  have := pe_bm PySem.F.plainAttrs_list slot hty (hm X hX) (n.pe (pos := p1) hX) (pa_tB hX hp) (hbase _) (hfew _) hline (hp.1 _) (plain_any hp.2)
  rw [hX.K] at this
  exact this
theorem f_lm0 {m : Str} {id : String} {r : V → List V → Hp → VK → Prop} (n : NmS S j x) (slot : PySem.Slot "list" m id) (hty : typeOf (.builtin id) = pure (.type "method_descriptor")) (hm : ∀ X, Fits S X → MtR X id r)
    (hbase : ∀ env, attributeBase (.Name x p1) m env (eval (.Name x p1) env) = eval (.Name x p1) env) (hline : (apos.endLine == cpos.line) = true) : ∀ X, Fits S X → PE X (.Call (.Attribute (.Name x p1) m apos) [] [] cpos) (tBM0 S.K "list" r (tVar j)) := fun X hX => by
  have := pe_bm0 PySem.F.plainAttrs_list slot hty (hm X hX) (n.pe (pos := p1) hX) (hbase _) hline
  rw [hX.K] at this
  exact this
/-- xs.append(e) -/
@[simp] def cApp (j : Nat) (f : EM D) : EM Fl := fun δ => match lstAt δ j with
  | some _ => EM.bind f (fun d δ1 => match lstAt δ1 j with
    | some ds => if ds.length < 1000000 then some (.ok .nx (δ1.set j (some (.list (ds ++ [d]))))) else none
    | none => none) δ
  | none => none
theorem ds_app (n : NmS S j x) (h : DE S e .own M f) (hp : Plain [e])
    (hbase : ∀ env, attributeBase (.Name x p1) "append" env (eval (.Name x p1) env) = eval (.Name x p1) env) (hline : (apos.endLine == cpos.line) = true) (hs : ∀ env, swapsWith (.Call (.Attribute (.Name x p1) "append" apos) [e] [] cpos) none spos.line env = pure false)
    (hfew : ∀ env, ((backTo cpos (starEach [e] env)).all (fun x => !x.1) && (backToKw cpos (keywordEach [] env)).all (fun x => x.1.isSome) && decide ([e].length + ([] : List Keyword).length + (if ([] : List Keyword).isEmpty then 0 else 1) < 30)) = true) :
    DS S (.Expr (.Call (.Attribute (.Name x p1) "append" apos) [e] [] cpos) spos) (M ++ [j]) [] (cApp j f) := fun σ H δ Fs D r E s hf k => by
  refine ⟨_, fun X hX => ps_expr (f_lm (S := S) n PySem.F.slot_list_append PySem.F.type_list_append (fun X _ => mt_append) hp hbase hfew hline X hX) (hs _), ?_⟩
  show ∃ v, σ[j]? = some (some v) ∧ tyV S.K "list" v H ∧ tB S e σ H fun y H2 => rAppend v [y] H2 fun _ H3 => D.nx σ H3
  unfold cApp at hf
  cases q : lstAt δ j with
  | none => rw [q] at hf; cases hf
  | some ds0 =>
    rw [q] at hf
    dsimp only at hf
    obtain ⟨a, vs, G0, hv, hH, _, _⟩ := slot_list E (lstAt_some q)
    refine ⟨.ref a, hv, .inl ⟨rfl, _, sqL_of hH⟩, ?_⟩
    rcases bind_some hf with ⟨d, δ1, h1, h2⟩ | ⟨x, h1, rfl⟩
    · cases q2 : lstAt δ1 j with
      | none => rw [q2] at h2; cases h2
      | some ds =>
        rw [q2] at h2
        dsimp only at h2
        by_cases hl : ds.length < 1000000
        · rw [if_pos hl] at h2
          cases h2
          refine h σ H δ Fs _ _ E s h1 fun v H1 Fs1 F p o => ?_
          obtain ⟨a', ws, Gj, hv', hH1, rs, hFj⟩ := slot_list p.env (lstAt_some q2)
          rw [hv] at hv'
          cases hv'
          have hj : j < δ1.length := (List.getElem?_eq_some_iff.mp (lstAt_some q2)).1
          refine ⟨a, ws, v, rfl, rfl, hH1, by rw [rs.length]; exact lim_lt hl, k σ _ _ (Post.mut (F := []) (G := F) (R := []) (G' := Gj ++ F) p hj hFj hv rfl ?_ (fun x m => by simpa using m) ?_) .refl⟩
          · have nd2 : a ∉ Gj ++ F := fun m => by
              rcases List.mem_append.mp m with m | m
              · have := p.sep.nds j
                rw [hFj] at this
                exact (List.nodup_cons.mp this).1 m
              · exact p.sep.dir j a m (by rw [hFj]; exact List.mem_cons_self)
            have k2 : Keep (fun x => x = a) H1 (upd H1 a (.lst (ws ++ [v]))) := .upd rfl fun u e => by rw [hH1] at e; cases e; rfl
            refine .lst upd_same ?_
            have r1 : Reps S.K H1 (ws ++ [v]) (ds ++ [d]) (Gj ++ (F ++ [])) := rs.append (.cons o .nil)
            rw [List.append_nil] at r1
            exact r1.keep k2 fun x m e => nd2 (e ▸ m)
          · have h1 := p.sep.nds j
            rw [hFj] at h1
            have h1 := List.nodup_cons.mp h1
            refine List.nodup_cons.mpr ⟨fun m => ?_, List.nodup_append.mpr ⟨h1.2, p.sep.ndr, fun x m y m' e => ?_⟩⟩
            · rcases List.mem_append.mp m with m | m
              · exact h1.1 m
              · exact p.sep.dir j a m (by rw [hFj]; exact List.mem_cons_self)
            · subst e
              exact p.sep.dir j x m' (by rw [hFj]; exact List.mem_cons_of_mem _ m)
        · rw [if_neg hl] at h2; cases h2
    · exact h σ H δ Fs _ _ E s h1 k
theorem Reps.erase {K : PySem.W.Frag} {H : Hp} {vs : List V} {ds : List D} {F : List Addr} {k : Nat} {d : D} (r : Reps K H vs ds F) (e : ds[k]? = some d) (hi : DL.imm d = true) : ∃ v, vs[k]? = some v ∧ Rep K H v d [] ∧ Reps K H (vs.eraseIdx k) (ds.eraseIdx k) F := by
  obtain ⟨v, F1, G, F2, h0, h1, h2, h3, h4⟩ := r.split e
  have hG := h2.imm hi
  subst hG
  refine ⟨v, h1, h2, ?_⟩
  rw [List.eraseIdx_eq_take_drop_succ, List.eraseIdx_eq_take_drop_succ, h0]
  exact h3.append h4
theorem Reps.setI {K : PySem.W.Frag} {H : Hp} {vs : List V} {ds : List D} {F : List Addr} {k : Nat} {d d' : D} {v' : V} {G' : List Addr} (r : Reps K H vs ds F) (e : ds[k]? = some d) (hr : Rep K H v' d' G') : ∃ F', Reps K H (vs.set k v') (ds.set k d') F' ∧ (∀ x ∈ F', x ∈ F ∨ x ∈ G') ∧ (F.Nodup → G'.Nodup → (∀ x ∈ F, x ∉ G') → F'.Nodup) := by
  obtain ⟨v, F1, G, F2, h0, h1, h2, h3, h4⟩ := r.split e
  have hk : k < ds.length := (List.getElem?_eq_some_iff.mp e).1
  have hk' : k < vs.length := (List.getElem?_eq_some_iff.mp h1).1
  refine ⟨F1 ++ (G' ++ F2), ?_, fun x m => ?_, fun n1 n2 n3 => ?_⟩
  · rw [List.set_eq_take_append_cons_drop, if_pos hk', List.set_eq_take_append_cons_drop, if_pos hk]
    exact h3.append (.cons hr h4)
  · subst h0
    rcases List.mem_append.mp m with m | m
    · exact .inl (List.mem_append_left _ m)
    · rcases List.mem_append.mp m with m | m
      · exact .inr m
      · exact .inl (List.mem_append_right _ (List.mem_append_right _ m))
  · subst h0
    have a1 := List.nodup_append.mp n1
    have a2 := List.nodup_append.mp a1.2.1
    refine List.nodup_append.mpr ⟨a1.1, List.nodup_append.mpr ⟨n2, a2.2.1, fun x m y m' e => ?_⟩, fun x m y m' e => ?_⟩
    · subst e
      exact n3 x (List.mem_append_right _ (List.mem_append_right _ m')) m
    · subst e
      rcases List.mem_append.mp m' with m' | m'
      · exact n3 x (List.mem_append_left _ m) m'
      · exact a1.2.2 x m x (List.mem_append_right _ m') rfl
/-- xs.pop(i) -/
@[simp] def cPopAt (j : Nat) (f : EM D) : EM D := fun δ => match lstAt δ j with
  | some _ => EM.bind f (fun d δ1 => match lstAt δ1 j, d with
    | some ds, .int i => match ixN ds.length i with
      | some k => match ds[k]? with
        | some y => if imm y = true ∧ ds.length ≤ 1000000 then some (.ok y (δ1.set j (some (.list (ds.eraseIdx k))))) else none
        | none => none
      | none => none
    | _, _ => none) δ
  | none => none
theorem de_popAt (n : NmS S j x) (h : DE S e .own M f) (hp : Plain [e])
    (hbase : ∀ env, attributeBase (.Name x p1) "pop" env (eval (.Name x p1) env) = eval (.Name x p1) env) (hline : (apos.endLine == cpos.line) = true)
    (hfew : ∀ env, ((backTo cpos (starEach [e] env)).all (fun x => !x.1) && (backToKw cpos (keywordEach [] env)).all (fun x => x.1.isSome) && decide ([e].length + ([] : List Keyword).length + (if ([] : List Keyword).isEmpty then 0 else 1) < 30)) = true) :
    DE S (.Call (.Attribute (.Name x p1) "pop" apos) [e] [] cpos) .own (M ++ [j]) (cPopAt j f) := fun σ H δ Fs Q r E s hf k => by
  refine ⟨_, fun X hX => f_lm (S := S) n PySem.F.slot_list_pop PySem.F.type_list_pop (fun X _ => mt_popAt) hp hbase hfew hline X hX, ?_⟩
  show ∃ v, σ[j]? = some (some v) ∧ tyV S.K "list" v H ∧ tB S e σ H fun y H2 => rPopAt v [y] H2 Q
  unfold cPopAt at hf
  cases q : lstAt δ j with
  | none => rw [q] at hf; cases hf
  | some ds0 =>
    rw [q] at hf
    dsimp only at hf
    obtain ⟨a, vs, G0, hv, hH, _, _⟩ := slot_list E (lstAt_some q)
    refine ⟨.ref a, hv, .inl ⟨rfl, _, sqL_of hH⟩, ?_⟩
    rcases bind_some hf with ⟨d, δ1, h1, h2⟩ | ⟨x, h1, rfl⟩
    · cases q2 : lstAt δ1 j with
      | none => rw [q2] at h2; cases h2
      | some ds =>
        rw [q2] at h2
        cases d with
        | int i =>
          dsimp only at h2
          cases q3 : ixN ds.length i with
          | none => rw [q3] at h2; cases h2
          | some kk =>
            rw [q3] at h2
            dsimp only at h2
            cases q4 : ds[kk]? with
            | none => rw [q4] at h2; cases h2
            | some y =>
              rw [q4] at h2
              dsimp only at h2
              by_cases hy : imm y = true ∧ ds.length ≤ 1000000
              · rw [if_pos hy] at h2
                cases h2
                refine h σ H δ Fs _ _ E s h1 fun v H1 Fs1 F p o => ?_
                have ev := Rep.iInt o
                subst ev
                obtain ⟨a', ws, Gj, hv', hH1, rs, hFj⟩ := slot_list p.env (lstAt_some q2)
                rw [hv] at hv'
                cases hv'
                have hj : j < δ1.length := (List.getElem?_eq_some_iff.mp (lstAt_some q2)).1
                obtain ⟨w, hw, rw', rs'⟩ := rs.erase q4 hy.1
                have hix := ixN_seq q3
                rw [← rs.length] at hix
                have ndj := p.sep.nds j
                rw [hFj] at ndj
                have k2 : Keep (fun x => x = a) H1 (upd H1 a (.lst (ws.eraseIdx kk))) := .upd rfl fun u e => by rw [hH1] at e; cases e; rfl
                have hlen : ws.length ≤ 1000000 := by rw [rs.length]; exact hy.2
                refine ⟨a, ws, i, kk, w, rfl, rfl, hH1, by omega, by omega, hix.1, hw, k w _ _ [] (Post.mut (F := []) (G := []) (R := []) (G' := Gj) p.dropR hj hFj hv rfl (.lst upd_same (rs'.keep k2 fun x m e => (List.nodup_cons.mp ndj).1 (e ▸ m))) (fun x m => .inl (by simpa using m)) ndj) (rw'.keep k2 fun _ m => (nomatch m))⟩
              · rw [if_neg hy] at h2; cases h2
        | _ => cases h2
    · exact h σ H δ Fs _ _ E s h1 k
/-- xs[i] = e -/
@[simp] def cSetI (j : Nat) (fe fi : EM D) : EM Fl := fun δ => match lstAt δ j with
  | some _ => EM.bind fe (fun d => EM.bind fi fun i δ => match lstAt δ j, i with
    | some ds, .int n => match ixN ds.length n with
      | some k => some (.ok .nx (δ.set j (some (.list (ds.set k d)))))
      | none => none
    | _, _ => none) δ
  | none => none
theorem ds_setI (n : NmS S j x) (he : DE S e .own M1 f) (hi : DE S i .own M2 g) (hs : ∀ env, swapsWithSole [.Subscript (.Name x p1) i tpos] e pos.line env = pure false) (hw : ∀ env, swappedStores [.Subscript (.Name x p1) i tpos] e env = pure none)
    (ha : ∀ env v, assign (.Subscript (.Name x p1) i tpos) env v = (do
      let ov ← holding [v] (eval (.Name x p1) env)
      let iv ← holding [v, ov] (eval i env)
      standAt tpos
      holding [v, ov, iv] (setItem ov iv v)
      release [v, ov, iv] [])) :
    DS S (.Assign [.Subscript (.Name x p1) i tpos] e pos) ((M1 ++ M2) ++ [j]) [] (cSetI j f g) := fun σ H δ Fs D r E s hf k => by
  refine ⟨_, fun X hX => ps_asg (pe_tB hX) (pg_sub (n.pe (pos := p1) hX) (pe_tB hX) set_list (ha _)) (hs _) (hw _), ?_⟩
  show tB S e σ H fun v H1 => ∃ o, σ[j]? = some (some o) ∧ tB S i σ H1 fun iv H2 => rSetL o iv v H2 fun H3 => D.nx σ H3
  unfold cSetI at hf
  cases q0 : lstAt δ j with
  | none => rw [q0] at hf; cases hf
  | some ds0 =>
    rw [q0] at hf
    dsimp only at hf
    obtain ⟨a, vs, G0, hv, hH, _, _⟩ := slot_list E (lstAt_some q0)
    rcases bind_some hf with ⟨d, δ1, h1, h2⟩ | ⟨x, h1, rfl⟩
    · refine he σ H δ Fs _ _ E s h1 fun v H1 Fs1 F p o => ⟨.ref a, hv, ?_⟩
      rcases bind_some h2 with ⟨iv, δ2, h3, h4⟩ | ⟨x, h3, rfl⟩
      · cases q : lstAt δ2 j with
        | none => rw [q] at h4; cases h4
        | some ds =>
          rw [q] at h4
          cases iv with
          | int nn =>
            dsimp only at h4
            cases q2 : ixN ds.length nn with
            | none => rw [q2] at h4; cases h4
            | some kk =>
              rw [q2] at h4
              cases h4
              refine hi σ H1 δ1 Fs1 _ _ p.env p.sep0 h3 fun w H2 Fs2 F2 p2 o2 => ?_
              have ew := Rep.iInt o2
              subst ew
              have o' := Opn.carry (κ := .own) o p.sep p2 rfl rfl
              have pp := p.comp p2.dropR
              rw [List.append_nil] at pp
              obtain ⟨a', ws, Gj, hv', hH1, rs, hFj⟩ := slot_list p2.env (lstAt_some q)
              rw [hv] at hv'
              cases hv'
              have hj : j < δ2.length := (List.getElem?_eq_some_iff.mp (lstAt_some q)).1
              have hk : kk < ds.length := (ixN_seq q2).2.1
              obtain ⟨F', r1, r2, r3⟩ := rs.setI (List.getElem?_eq_getElem hk) o'
              have ndj := pp.sep.nds j
              rw [hFj] at ndj
              have ndj := List.nodup_cons.mp ndj
              have dj : ∀ y ∈ F, y ∉ a :: Gj := fun y m => by rw [← hFj]; exact pp.sep.dir j y m
              have na : a ∉ F' := fun m => by
                rcases r2 a m with m | m
                · exact ndj.1 m
                · exact dj a m List.mem_cons_self
              have k2 : Keep (fun x => x = a) H2 (upd H2 a (.lst (ws.set kk v))) := .upd rfl fun u e => by rw [hH1] at e; cases e; rfl
              refine ⟨a, ws, nn, kk, rfl, rfl, hH1, by rw [rs.length]; exact q2, k σ _ _ (Post.mut (F := []) (G := F) (R := []) (G' := F') pp hj hFj hv rfl (.lst upd_same (r1.keep k2 fun x m e => na (e ▸ m))) (fun x m => r2 x (by simpa using m)) ?_) .refl⟩
              exact List.nodup_cons.mpr ⟨na, r3 ndj.2 pp.sep.ndr fun y m m' => dj y m' (List.mem_cons_of_mem _ m)⟩
          | _ => cases h4
      · exact hi σ H1 δ1 Fs1 _ _ p.env p.sep0 h3 (XOk.post k p)
    · exact he σ H δ Fs _ _ E s h1 k
/-- xs[i] += n -/
theorem pget_list {X : Cx} : PGet X (rIxL X.K) := by
  intro pins s σ H x y v u Q I rx ry h
  obtain ⟨p, xs, i, z, rfl, rfl, hq, he, q⟩ := h
  cases rx
  obtain ⟨t, rfl⟩ := ry
  obtain ⟨its, r, pl, hz⟩ := I.list hq
  obtain ⟨j, h1, h2, h3, h4, h5⟩ := atI_get he
  obtain ⟨w, ew, rw'⟩ := r.get h2
  have hl := r.length
  have hn := line63
  have fin : EP X pins σ Q w s := ⟨z, H, I, rw', q⟩
  by_cases h0 : 0 ≤ i
  · have hj : i.toNat = j := by
      rw [seqIndex_of h0 h5] at h1
      exact Option.some.inj h1
    exact wpAny_getItem_list pl.isList h0 (by omega) (by rw [hj]; simpa using ew) fin
  · have hj : (i + (its.toArray.size : Int)).toNat = j := by
      rw [seqIndex_neg (by omega) h4] at h1
      rw [List.size_toArray, ← hl]
      exact Option.some.inj h1
    exact wpAny_getItem_list_neg pl.isList (by omega) (by rw [List.size_toArray] <;> omega) (by omega) (by rw [hj]; simpa using ew) fin
@[simp] def cAugSI (j : Nat) (gg : Int → Int → Int) (fi fe : EM D) : EM Fl := fun δ => match lstAt δ j with
  | some _ => EM.bind fi (fun i δ1 => match lstAt δ1 j, i with
    | some ds, .int n => match ixN ds.length n with
      | some k => match ds[k]? with
        | some (.int old) => EM.bind fe (fun d δ2 => match lstAt δ2 j, d with
          | some ds2, .int b => if ds2.length = ds.length then some (.ok .nx (δ2.set j (some (.list (ds2.set k (.int (gg old b))))))) else none
          | _, _ => none) δ1
        | _ => none
      | none => none
    | _, _ => none) δ
  | none => none
theorem ds_augSI {op : Operator} {gg : Int → Int → Int} (n : NmS S j x) (hi : DE S i .own M1 f) (he : DE S e .own M2 g) (hp : ∀ X, PIp X op (ipI gg))
    (ha : ∀ ov iv new, augStore i ov iv new = (do holding [new, ov, iv] (setItem ov iv new); release [new, ov, iv] []; pure .next)) :
    DS S (.AugAssign (.Subscript (.Name x p1) i tpos) op e pos) ((M1 ++ M2) ++ [j]) [] (cAugSI j gg f g) := fun σ H δ Fs D r E s hf k => by
  refine ⟨_, fun X hX => ps_augS (n.pe (pos := p1) hX) (pe_tB hX) (by have := pget_list (X := X); rw [hX.K] at this; exact this) (pe_tB hX) (hp X) set_list ha, ?_⟩
  show ∃ o, σ[j]? = some (some o) ∧ tB S i σ H fun iv H2 => rIxL S.K o iv H2 fun x H3 => tB S e σ H3 fun y H4 => ipI gg x y H4 fun z H5 => rSetL o iv z H5 fun H6 => D.nx σ H6
  unfold cAugSI at hf
  cases q0 : lstAt δ j with
  | none => rw [q0] at hf; cases hf
  | some ds0 =>
    rw [q0] at hf
    dsimp only at hf
    obtain ⟨a, vs, G0, hv, hH, _, _⟩ := slot_list E (lstAt_some q0)
    refine ⟨.ref a, hv, ?_⟩
    rcases bind_some hf with ⟨iv, δ1, h1, h2⟩ | ⟨x, h1, rfl⟩
    · refine hi σ H δ Fs _ _ E s h1 fun w H1 Fs1 F p o => ?_
      cases q : lstAt δ1 j with
      | none => rw [q] at h2; cases h2
      | some ds =>
        rw [q] at h2
        cases iv with
        | int nn =>
          have ew := Rep.iInt o
          subst ew
          dsimp only at h2
          cases q2 : ixN ds.length nn with
          | none => rw [q2] at h2; cases h2
          | some kk =>
            rw [q2] at h2
            dsimp only at h2
            cases q3 : ds[kk]? with
            | none => rw [q3] at h2; cases h2
            | some old =>
              rw [q3] at h2
              cases old with
              | int old =>
                dsimp only at h2
                obtain ⟨a', ws, Gj, hv', hH1, rs, hFj⟩ := slot_list p.env (lstAt_some q)
                rw [hv] at hv'
                cases hv'
                obtain ⟨z, Gz, hz, rz, _⟩ := rs.get q3
                have ez := rz.iInt
                subst ez
                refine ⟨a, ws, nn, .int old, rfl, rfl, sqL_of hH1, by unfold atI; rw [rs.length, q2]; exact hz, ?_⟩
                rcases bind_some h2 with ⟨d, δ2, h3, h4⟩ | ⟨x, h3, rfl⟩
                · refine he σ H1 δ1 Fs1 _ _ p.env p.sep0 h3 fun v H2 Fs2 F2 p2 o2 => ?_
                  cases q4 : lstAt δ2 j with
                  | none => rw [q4] at h4; cases h4
                  | some ds2 =>
                    rw [q4] at h4
                    cases d with
                    | int b =>
                      have ev := Rep.iInt o2
                      subst ev
                      dsimp only at h4
                      by_cases hl : ds2.length = ds.length
                      · rw [if_pos hl] at h4
                        cases h4
                        obtain ⟨a', ws2, Gj2, hv', hH2, rs2, hFj2⟩ := slot_list p2.env (lstAt_some q4)
                        rw [hv] at hv'
                        cases hv'
                        have hj : j < δ2.length := (List.getElem?_eq_some_iff.mp (lstAt_some q4)).1
                        have hk : kk < ds2.length := by rw [hl]; exact (ixN_seq q2).2.1
                        obtain ⟨F', r1, r2, r3⟩ := rs2.setI (List.getElem?_eq_getElem hk) (.int (gg old b))
                        have pp := p.dropR.comp p2.dropR
                        have ndj := pp.sep.nds j
                        rw [hFj2] at ndj
                        have ndj := List.nodup_cons.mp ndj
                        have na : a ∉ F' := fun m => by
                          rcases r2 a m with m | m
                          · exact ndj.1 m
                          · cases m
                        have k2 : Keep (fun x => x = a) H2 (upd H2 a (.lst (ws2.set kk (.int (gg old b))))) := .upd rfl fun u e => by rw [hH2] at e; cases e; rfl
                        refine ⟨old, b, rfl, rfl, a, ws2, nn, kk, rfl, rfl, hH2, by rw [rs2.length, hl]; exact q2, k σ _ _ (Post.mut (F := []) (G := []) (R := []) (G' := F') pp hj hFj2 hv rfl (.lst upd_same (r1.keep k2 fun x m e => na (e ▸ m))) (fun x m => (r2 x (by simpa using m)).imp id fun z => (nomatch z)) ?_) .refl⟩
                        exact List.nodup_cons.mpr ⟨na, r3 ndj.2 List.nodup_nil fun y _ m' => (nomatch m')⟩
                      · rw [if_neg hl] at h4; cases h4
                    | _ => cases h4
                · exact he σ H1 δ1 Fs1 _ _ p.env p.sep0 h3 (XOk.post k p)
              | _ => cases h2
        | _ => cases h2
    · exact hi σ H δ Fs _ _ E s h1 k
end
end DL
set_option maxHeartbeats 2000000
/-! DL12: loops; the rule of a def. -/
namespace DL
open PySem PySem.Spec PyProof.Rows L2
variable {S : Sig}
@[simp] def cLoop (t : Tg) (body : EM Fl) : List D → EM Fl
  | [] => fun δ => some (.ok .nx δ)
  | d :: r => fun δ => match bindT t d δ with
    | none => none
    | some δ1 => match body δ1 with
      | some (.ok .nx δ2) => cLoop t body r δ2
      | some (.ok .ct δ2) => cLoop t body r δ2
      | some (.ok .bk δ2) => some (.ok .nx δ2)
      | o => o
@[simp] def cFor (f : EM (List D)) (t : Tg) (body : EM Fl) : EM Fl := EM.bind f fun items => cLoop t body items
theorem ds_for {tg iter : Expr} {body : List Stmt} {pos : Pos} {L M Mb Ab : List Nat} {f : EM (List D)} {t : Tg} {g : EM Fl} (hI : DI S tg iter L M f) (ht : TgOk S tg t) (hb : DSs S body Mb Ab g) (hs : ∀ env x, foldedSetIterable iter env x = pure x)
    (hL : ∀ l ∈ L, l ∉ t.slots ∧ l ∉ Mb) : DS S (.For tg iter body [] pos) (M ++ (t.slots ++ Mb)) (t.slots ++ Ab) (cFor f t g) := fun σ H δ Fs D r E s hf k => by
  obtain ⟨gt, hg, tgq⟩ := ht.ex
  refine ⟨_, fun X hX => ps_for hX.own hX.calm (pi_tB hX) (hg X hX) (pss_tB hX) (hs _), ?_⟩
  show tBI S tg iter σ H fun J H1 => ∃ W : Nat → Nat → L2.St → Hp → Prop, (∃ m, W 0 m σ H1) ∧ ∀ i m σ H, W i m σ H →
    (J.stop i H ∧ D.nx σ H) ∨ (J.go i H ∧ ∃ N : L2.St → Hp → Prop, (∀ σ' H', N σ' H' → ∃ m', m' < m ∧ W (i + 1) m' σ' H') ∧ ∀ x H', J.yld i H x H' → gt x σ H' fun σ2 H2 => tBSs S body { D with nx := N, ct := N, bk := D.nx } σ2 H2)
  rcases bind_some hf with ⟨items, δ1, h1, h2⟩ | ⟨x, h1, rfl⟩
  rotate_left
  · exact hI σ H δ Fs _ _ E s h1 k
  refine hI σ H δ Fs _ _ E s h1 fun J H1 Fs1 Fr G p ito g0 stays => ?_
  let Mt := M ++ (t.slots ++ Mb)
  let At := t.slots ++ Ab
  refine ⟨fun i m σ' H' => m = items.length - i ∧ i ≤ items.length ∧ ∃ δ' Fs', Post S.K Mt H δ Fs σ' H' δ' Fs' Fr ∧ SameA At σ σ' ∧ cLoop t g (items.drop i) δ' = some r ∧ G H' ∧ ∀ l ∈ L, Fs' l = Fs1 l,
    ⟨items.length, by simp, Nat.zero_le _, δ1, Fs1, p.mono fun i m => List.mem_append_left _ m, .refl, h2, g0, fun _ _ => rfl⟩, ?_⟩
  rintro i m σ' H' ⟨rfl, hi, δ', Fs', P, sa, hl, hG, hLs⟩
  by_cases hlt : i < items.length
  rotate_left
  · have ei : i = items.length := by omega
    subst ei
    rw [List.drop_length] at hl
    have hl : some (Out.ok Fl.nx δ') = some r := hl
    cases hl
    exact .inl ⟨ito.stop H' hG, k σ' H' Fs' P.dropR sa⟩
  have hdrop : items.drop i = items[i] :: items.drop (i + 1) := List.drop_eq_getElem_cons hlt
  rw [hdrop] at hl
  unfold cLoop at hl
  cases hbt : bindT t items[i] δ' with
  | none => rw [hbt] at hl; cases hl
  | some δb =>
    rw [hbt] at hl
    dsimp only at hl
    refine .inr ⟨ito.go i H' hlt hG, fun σ'' H'' => ∃ δ' Fs', Post S.K Mt H δ Fs σ'' H'' δ' Fs' Fr ∧ SameA At σ σ'' ∧ cLoop t g (items.drop (i + 1)) δ' = some r ∧ G H'' ∧ ∀ l ∈ L, Fs' l = Fs1 l, fun σ'' H'' hN => ⟨items.length - (i + 1), by omega, rfl, hlt, hN⟩, fun x Hy hy => ?_⟩
    obtain ⟨dx, hdx, nv⟩ := ito.yld i H' x Hy hlt hG hy
    have edx : items[i] = dx := by
      rw [List.getElem?_eq_getElem hlt] at hdx
      exact Option.some.inj hdx
    rw [edx] at hbt
    have Py : Post S.K Mt H δ Fs σ' Hy δ' Fs' Fr := by
      have p0 : Post S.K [] H' δ' Fs' σ' Hy δ' Fs' [] := ⟨P.env.keep nv.keep fun _ _ _ h => h, P.sep0, fun _ m => (nomatch m), fun _ m => (nomatch m), fun _ m => (nomatch m), nv.keep.imp fun _ _ h => h.elim, fun _ _ => ⟨rfl, rfl⟩⟩
      have := P.comp p0
      rw [List.append_nil, List.append_nil] at this
      exact this
    refine tgq x dx σ' Hy _ _ _ nv.rep hbt fun is vsx ds his rps hset => ?_
    have Pb := Post.sets Py rps hset
    generalize hFsb : wipeF is Fs' = Fsb at Pb
    have sab : SameA (At ++ is) σ (setsV is vsx σ') := sa.trans sameA_sets
    have hisM : ∀ j ∈ is, j ∈ t.slots := fun j m => by rw [his]; exact m
    have hLb : ∀ l ∈ L, Fsb l = Fs1 l := fun l m => by
      rw [← hFsb, wipeF_out fun z => (hL l m).1 (hisM l z)]
      exact hLs l m
    cases hbd : g δb with
    | none => rw [hbd] at hl; cases hl
    | some rb =>
      rw [hbd] at hl
      have mM : ∀ j ∈ (Mt ++ is) ++ Mb, j ∈ Mt := fun j m => by
        rcases List.mem_append.mp m with m | m
        · rcases List.mem_append.mp m with m | m
          · exact m
          · exact List.mem_append_right _ (List.mem_append_left _ (hisM j m))
        · exact List.mem_append_right _ (List.mem_append_right _ m)
      have mA : ∀ j ∈ (At ++ is) ++ Ab, j ∈ At := fun j m => by
        rcases List.mem_append.mp m with m | m
        · rcases List.mem_append.mp m with m | m
          · exact m
          · exact List.mem_append_left _ (hisM j m)
        · exact List.mem_append_right _ m
      have next : ∀ {δ2 : DEnv} {σ2 : L2.St} {H2 : Hp} {Fs2 : FT}, cLoop t g (items.drop (i + 1)) δ2 = some r → Post S.K Mb Hy δb Fsb σ2 H2 δ2 Fs2 [] → SameA Ab (setsV is vsx σ') σ2 →
          ∃ δ' Fs', Post S.K Mt H δ Fs σ2 H2 δ' Fs' Fr ∧ SameA At σ σ2 ∧ cLoop t g (items.drop (i + 1)) δ' = some r ∧ G H2 ∧ ∀ l ∈ L, Fs' l = Fs1 l := fun {δ2 σ2 H2 Fs2} hr q sq => by
        have P2 := (Pb.comp q).mono (M' := Mt) mM
        rw [List.append_nil] at P2
        refine ⟨δ2, Fs2, P2, (sab.trans sq).mono mA, hr, ?_, fun l hl => ((q.same l (hL l hl).2).1).trans (hLb l hl)⟩
        exact stays _ _ (InM Mb Fsb) (stays _ _ (fun _ => False) hG nv.keep fun _ b => b.elim) q.keep fun a ⟨j, hj, m⟩ => ⟨fun z => Pb.sep.dir j a z m, fun l hl z => by
          rw [← hLb l hl] at z
          by_cases e : j = l
          · subst e; exact (hL j hl).2 hj
          · exact Pb.sep.dis j l e a m z⟩
      cases rb with
      | ex x =>
        cases hl
        exact hb (setsV is vsx σ') Hy δb Fsb _ _ Pb.env Pb.sep0 hbd (XOk.post k (Pb.mono (M' := Mt) fun j m => mM j (List.mem_append_left _ m)))
      | ok fl δ2 =>
        cases fl with
        | nx => exact hb (setsV is vsx σ') Hy δb Fsb _ _ Pb.env Pb.sep0 hbd fun σ2 H2 Fs2 q sq => next hl q sq
        | ct => exact hb (setsV is vsx σ') Hy δb Fsb _ _ Pb.env Pb.sep0 hbd fun σ2 H2 Fs2 q sq => next hl q sq
        | bk =>
          cases hl
          exact hb (setsV is vsx σ') Hy δb Fsb _ _ Pb.env Pb.sep0 hbd fun σ2 H2 Fs2 q sq => k σ2 H2 Fs2 ((Pb.comp q).dropR.mono mM) ((sab.trans sq).mono mA)
        | rt d =>
          cases hl
          refine hb (setsV is vsx σ') Hy δb Fsb _ _ Pb.env Pb.sep0 hbd fun v σ2 H2 Fs2 F2 q sq rp => ?_
          have P2 := (Pb.comp q).mono (M' := Mt) mM
          have P3 : Post S.K Mt H δ Fs σ2 H2 δ2 Fs2 F2 := ⟨P2.env, P2.sep.right, fun a m => P2.trk a (List.mem_append_right _ m), P2.sub, fun a m => P2.subr a (List.mem_append_right _ m), P2.keep, P2.same⟩
          exact k v σ2 H2 Fs2 F2 P3 ((sab.trans sq).mono mA) rp
/-! ### the rule of a def -/
@[simp] def finArgs (A : List Nat) : Nat → DEnv → DEnv → DEnv
  | _, [], _ => []
  | j, a :: r, δ' => (if A.contains j = true then a else (δ'[j]?).join) :: finArgs A (j + 1) r δ'
theorem finArgs_get {A : List Nat} {δ' : DEnv} : ∀ {δ : DEnv} {b j : Nat}, (finArgs A b δ δ')[j]? = (δ[j]?).map fun a => if A.contains (b + j) = true then a else (δ'[b + j]?).join
  | [], b, j => by simp [finArgs]
  | a :: r, b, 0 => by simp [finArgs]
  | a :: r, b, j + 1 => by
    rw [finArgs]
    simp only [List.getElem?_cons_succ]
    rw [finArgs_get, show b + 1 + j = b + (j + 1) by omega]
@[simp] def immA (A : List Nat) (δ : DEnv) : Bool := A.all (immAt δ)
/-- what a def is worth, by its body -/
@[simp] def fnD (n : Nat) (A : List Nat) (g : EM Fl) : EM D := fun δ => if immA A δ = true then
    match g (δ ++ List.replicate (n - δ.length) none) with
    | some (.ok (.rt d) δ') => some (.ok d (finArgs A 0 δ δ'))
    | some (.ok .nx δ') => some (.ok .none (finArgs A 0 δ δ'))
    | some (.ex x) => some (.ex x)
    | _ => none
  else none
theorem app_none {δ : DEnv} {m i : Nat} {d : D} : (δ ++ List.replicate m none)[i]? = some (some d) ↔ δ[i]? = some (some d) := by
  by_cases h : i < δ.length
  · rw [List.getElem?_append_left h]
  · rw [List.getElem?_append_right (by omega), List.getElem?_eq_none (by omega : δ.length ≤ i), List.getElem?_replicate]
    split <;> simp
theorem start_env {K : PySem.W.Frag} {H : Hp} {vs : List V} {δ : DEnv} {Fp : FT} {N : List Str} (E : EnvR K H (vs.map some) δ Fp) (h : vs.length ≤ N.length) : EnvR K H (L2.start N vs) (δ ++ List.replicate (N.length - δ.length) none) Fp := by
  have hl : vs.length = δ.length := by have := E.len; simpa using this
  refine ⟨by unfold L2.start; simp [hl], fun i d e => ?_, fun i hn => E.no i fun d e => hn d (app_none.mpr e)⟩
  obtain ⟨v, h1, h2⟩ := E.at i d (app_none.mp e)
  refine ⟨v, ?_, h2⟩
  unfold L2.start
  rw [List.getElem?_append_left (by have := (List.getElem?_eq_some_iff.mp h1).1; simpa using this)]
  exact h1
theorem fin_post {K : PySem.W.Frag} {H H' : Hp} {vs : List V} {δ δ' : DEnv} {Fp Fs' : FT} {N : List Str} {M A mp : List Nat} {σ' : L2.St} {Fr : List Addr} (E : EnvR K H (vs.map some) δ Fp) (h : vs.length ≤ N.length) (hA : immA A δ = true) (hmp : ∀ j ∈ M, j < δ.length → j ∈ A ∨ j ∈ mp)
    (p : Post K M H (δ ++ List.replicate (N.length - δ.length) none) Fp σ' H' δ' Fs' Fr) (sa : SameA A (L2.start N vs) σ') :
    Post K mp H δ Fp (vs.map some) H' (finArgs A 0 δ δ') (fun j => if j < δ.length ∧ j ∉ A then Fs' j else []) Fr := by
  have hl : vs.length = δ.length := by have := E.len; simpa using this
  have immF : ∀ j ∈ A, Fp j = [] := fun j m => immAt_nil E (List.all_eq_true.mp hA j m)
  have outF : ∀ j, ¬ j < δ.length → Fp j = [] := fun j m => E.no j fun d e => m (List.getElem?_eq_some_iff.mp e).1
  have inM : ∀ a, InM M Fp a → InM mp Fp a := fun a ⟨j, hj, m⟩ => by
    by_cases h1 : j < δ.length
    · rcases hmp j hj h1 with h2 | h2
      · rw [immF j h2] at m; cases m
      · exact ⟨j, h2, m⟩
    · rw [outF j h1] at m; cases m
  have get : ∀ j, (finArgs A 0 δ δ')[j]? = (δ[j]?).map fun a => if A.contains j = true then a else (δ'[j]?).join := fun j => by
    rw [finArgs_get]; simp
  have stj : ∀ j, j < δ.length → (L2.start N vs)[j]? = (vs.map some)[j]? := fun j hj => by
    unfold L2.start
    rw [List.getElem?_append_left (by rw [List.length_map]; omega)]
  have fl : (finArgs A 0 δ δ').length = δ.length := by
    have : ∀ (δ : DEnv) (b : Nat), (finArgs A b δ δ').length = δ.length := fun δ => by
      induction δ with
      | nil => intro b; rfl
      | cons a r ih => intro b; rw [finArgs, List.length_cons, List.length_cons, ih]
    exact this δ 0
  refine ⟨⟨by rw [List.length_map, fl, hl], fun j d e => ?_, fun j hn => ?_⟩, ⟨p.sep.ndr, fun j => ?_, fun i j n a m => ?_, fun j a m => ?_⟩, p.trk, fun j hj a m => ?_, fun a m => (p.subr a m).imp (inM a) id, p.keep.imp fun a _ => inM a, fun j hj => ?_⟩
  · rw [get] at e
    cases e1 : δ[j]? with
    | none => rw [e1] at e; cases e
    | some x =>
      have hj : j < δ.length := (List.getElem?_eq_some_iff.mp e1).1
      rw [e1] at e
      have e : (if A.contains j = true then x else (δ'[j]?).join) = some d := Option.some.inj e
      by_cases hA' : j ∈ A
      · rw [if_pos (by simpa using hA')] at e
        subst e
        obtain ⟨v, h1, h2⟩ := E.at j d e1
        rw [immF j hA'] at h2
        refine ⟨v, h1, ?_⟩
        show Rep K H' v d (if j < δ.length ∧ j ∉ A then Fs' j else [])
        rw [if_neg fun z => z.2 hA']
        exact h2.keep p.keep fun _ m => (nomatch m)
      · rw [if_neg (by simpa using hA')] at e
        have e3 : δ'[j]? = some (some d) := by
          cases h : δ'[j]? with
          | none => rw [h] at e; cases e
          | some x => rw [h] at e; exact congrArg some e
        obtain ⟨v, h1, h2⟩ := p.env.at j d e3
        rw [sa j hA', stj j hj] at h1
        refine ⟨v, h1, ?_⟩
        show Rep K H' v d (if j < δ.length ∧ j ∉ A then Fs' j else [])
        rw [if_pos ⟨hj, hA'⟩]
        exact h2
  · show (if j < δ.length ∧ j ∉ A then Fs' j else []) = []
    by_cases hc : j < δ.length ∧ j ∉ A
    · rw [if_pos hc]
      refine p.env.no j fun d e => hn d ?_
      rw [get, List.getElem?_eq_getElem hc.1]
      show some (if A.contains j = true then _ else (δ'[j]?).join) = _
      rw [if_neg (by simpa using hc.2), e]
      rfl
    · rw [if_neg hc]
  · show (if j < δ.length ∧ j ∉ A then Fs' j else []).Nodup
    split
    · exact p.sep.nds j
    · exact List.nodup_nil
  · have m : a ∈ (if i < δ.length ∧ i ∉ A then Fs' i else []) := m
    show a ∉ (if j < δ.length ∧ j ∉ A then Fs' j else [])
    split at m
    · split
      · exact p.sep.dis i j n a m
      · exact fun z => (nomatch z)
    · cases m
  · show a ∉ (if j < δ.length ∧ j ∉ A then Fs' j else [])
    split
    · exact p.sep.dir j a m
    · exact fun z => (nomatch z)
  · have m : a ∈ (if j < δ.length ∧ j ∉ A then Fs' j else []) := m
    split at m
    · by_cases hm : j ∈ M
      · exact (p.sub j hm a m).imp (inM a) id
      · rw [(p.same j hm).1] at m
        exact .inl ⟨j, hj, m⟩
    · cases m
  · refine ⟨?_, ?_⟩
    · show (if j < δ.length ∧ j ∉ A then Fs' j else []) = Fp j
      by_cases hc : j < δ.length ∧ j ∉ A
      · rw [if_pos hc]
        have hm : j ∉ M := fun z => (hmp j z hc.1).elim hc.2 hj
        exact (p.same j hm).1
      · rw [if_neg hc]
        by_cases h1 : j < δ.length
        · exact (immF j (Classical.byContradiction fun z => hc ⟨h1, z⟩)).symm
        · exact (outF j h1).symm
    · rw [get]
      cases e1 : δ[j]? with
      | none => rfl
      | some x =>
        have h1 : j < δ.length := (List.getElem?_eq_some_iff.mp e1).1
        show some (if A.contains j = true then x else (δ'[j]?).join) = some x
        by_cases hA' : j ∈ A
        · rw [if_pos (by simpa using hA')]
        · rw [if_neg (by simpa using hA')]
          have hm : j ∉ M := fun z => (hmp j z h1).elim hA' hj
          have := (p.same j hm).2
          rw [List.getElem?_append_left h1, e1] at this
          rw [this]
          rfl
theorem fn_rule {P : Program} {w : World} {K : PySem.W.Frag} {mg : Str → Option Value} {base : Heap} {x qual : Str} {st : Stmt} {f : Addr} {fd : FuncData} {N ps : List Str} {k n np : Nat} {M A mp : List Nat} {g : EM Fl}
    (F : Fun K x qual st f fd) (Sc : FnScope N ps (defScope st)) (hb : ∀ E, DSs ⟨P, w, K, mg, base, N, defScope st, fun _ => true, k, E⟩ (defBody st) M A g) (hn : N.length = n) (hp : ps.length = np) (hpn : np ≤ n) (hmp : ∀ j ∈ M, j < np → j ∈ A ∨ j ∈ mp) :
    FnOk P w K mg base (L2.CX P w) (k + 1) f fd ps (Prom K mg (fnD n A g) mp np) := by
  refine F.okX Sc (fun vs H Q E h => h.1.trans hp.symm) fun cdv Ar outer s H vs Q E hr h => ?_
  obtain ⟨hl, δ, Fp, r, En, sp, hF, kk⟩ := h
  have hfit : Fits ⟨P, w, K, mg, base, N, defScope st, fun _ => true, k, E⟩ (cxOf (L2.CX P w) P w K mg base N qual (defScope st) f cdv Ar outer s H E) :=
    ⟨rfl, rfl, rfl, rfl, rfl, rfl, rfl, fun _ _ => rfl, hr, rfl, takes_of rfl rfl rfl rfl, passes_of rfl⟩
  refine ⟨_, pss_tB hfit, ?_⟩
  have hlv : vs.length = δ.length := by have := En.len; simpa using this
  have hN : vs.length ≤ N.length := by omega
  unfold fnD at hF
  by_cases hA : immA A δ = true
  · rw [if_pos hA] at hF
    rw [← hn] at hF
    have hmp' : ∀ j ∈ M, j < δ.length → j ∈ A ∨ j ∈ mp := fun j m h => hmp j m (by omega)
    cases e : g (δ ++ List.replicate (N.length - δ.length) none) with
    | none => rw [e] at hF; cases hF
    | some rb =>
      rw [e] at hF
      cases rb with
      | ex x =>
        cases hF
        exact hb E (L2.start N vs) H _ Fp _ _ (start_env En hN) sp e kk
      | ok fl δ' =>
        cases fl with
        | nx =>
          cases hF
          exact hb E (L2.start N vs) H _ Fp _ _ (start_env En hN) sp e fun σ' H' Fs' p sa => kk .non H' _ [] (fin_post En hN hA hmp' p sa) .non
        | rt d =>
          cases hF
          exact hb E (L2.start N vs) H _ Fp _ _ (start_env En hN) sp e fun v σ' H' Fs' Fr p sa rp => kk v H' _ Fr (fin_post En hN hA hmp' p sa) rp
        | bk => cases hF
        | ct => cases hF
  · rw [if_neg hA] at hF; cases hF
theorem FnI.mk' {P : Program} {w : World} {K : PySem.W.Frag} {mg : Str → Option Value} {base : Heap} {x qual : Str} {st : Stmt} {f : Addr} {fd : FuncData} {ps : List Str} {F : EM D} {mp : List Nat} {n k : Nat} (Fu : Fun K x qual st f fd) (ok : FnOk P w K mg base (L2.CX P w) k f fd ps (Prom K mg F mp n)) (hm : mg x = some (.ref f))
    (b : Binds K fd ps []) : FnI P w K mg base x F mp n k := ⟨f, fd, ps, ok, hm, Fu.kp, b⟩
end DL
set_option maxHeartbeats 2000000
/-! DL13: list(reversed(xs)). -/
namespace DL
open PySem PySem.Spec PyProof.Rows L2 RT
section
variable {prog : Program} {w : World} {A : Around} {E : Value → Shared → Prop} {s : Shared}
theorem extend_rev {R : Result → Shared → Prop} {it l : Addr} {items : Array Value} (hh : A.handled = none) (hit : s.heap.IsRevIter it l ((items.size : Int) - 1)) (hl : s.heap.IsList l items) (hne : l ≠ it) (hn : items.size ≤ sizeLine)
    (S : Addr) (res : Value) (c₀ : Nat) (hS : s.heap.get? S = some { cls := .type "list", data := .seq #[] c₀ }) (hSi : S ≠ it) (hSl : S ≠ l)
    (hR : ∀ (h' : Heap) (tk : Nat) (acc : Array Value) (c' : Nat), (∀ b o, b ≠ S → b ≠ it → s.heap.get? b = some o → h'.get? b = some o) → h'.get? S = some { cls := .type "list", dict := none, data := .seq acc c', slots := #[] } →
      ItemsOf (fun i v => items[items.size - 1 - i]? = some v) acc items.size → R (.ok (.ret res)) { s with heap := h', toks := tk }) :
    wpAny (model prog w) A.in1 (Builtin.List.listExtendWith (.ref S) (.ref it) res)
      (fun fin s' => match fin with | .done f => R (.ok f) s' | .again c' => c'.quiet = true ∧ codeAny (model prog w) A c' R s') (fun e s' => R (.error e) s') s := by
  have W := (Walks.listRev (prog := prog) (w := w) (A := A.in1) hh it l hne items).toS
  have hSf : S ∉ [it, l] := by simp only [List.mem_cons, List.not_mem_nil, or_false, not_or]; exact ⟨hSi, hSl⟩
  have hT : s.TypeIs (.ref it) "list_reverseiterator" := Heap.IsRevIter.typeIs hit
  have h1 : Builtin.List.listSameRef (.ref S) (.ref it) = false := by simp [Builtin.List.listSameRef, hSi]
  unfold Builtin.List.listExtendWith
  refine wpAny_bind (wpAny_typeOf hT ?_)
  rw [if_neg (by rw [h1]; decide)]
  refine wpAny_bind (wpAny_pyIter_revIter hit ?_)
  refine wpAny_bind (wpAny_holding ?_)
  unfold Builtin.List.listLengthHint
  refine wpAny_bind (wpAny_specialOf hT nolen_lri ?_)
  show wpAny _ A.in1 (specialOf (Value.ref it) (Str.ofString "__length_hint__") >>= _) _ _ _
  refine wpAny_bind (wpAny_specialOf hT hint_lri ?_)
  generalize hid : ("list_reverseiterator.__length_hint__" : String) = id0
  wp_delta
  rw [show splitId id0 = some ("list_reverseiterator", "__length_hint__") from by subst hid; decide +kernel]
  subst hid
  refine wpAny_bind (wpAny_isInstance (b := true) hT (by rw [isSubtype_type]; kernel_rfl) ?_)
  refine wpAny_pure ?_
  rw [if_neg (by decide)]
  have e0 : ((items.size : Nat) : Int) - 1 - ((0 : Nat) : Int) = (items.size : Int) - 1 := by omega
  refine wpAny_pure ⟨plainId_quiet F.plain_extend_loop _, codeAny_extend_loopS W hn S hSf res items.size 0 _ _ _ rfl (Nat.zero_le _) ⟨Nat.zero_le _, by rw [e0]; exact hit, hl⟩ hS (ItemsOf.nil _) fun s' acc' c' hm hS' hacc => ?_⟩
  rw [Moved.eq_with hm]
  refine hR s'.heap s'.toks acc' c' (fun b o hb hbi e => hm.heap b o (fun hmem => ?_) e) hS' hacc
  rcases List.mem_cons.mp hmem with e' | hmem
  · exact hb e'
  · exact hbi (List.mem_singleton.mp hmem)
theorem call_list_revIter {Q : Value → Shared → Prop} {it l : Addr} {items : Array Value} (hh : A.handled = none) (hit : s.heap.IsRevIter it l ((items.size : Int) - 1)) (hl : s.heap.IsList l items) (hne : l ≠ it) (hn : items.size ≤ sizeLine)
    (hQ : ∀ (h' : Heap) (tk : Nat) (acc : Array Value) (c' : Nat), (∀ b o, b ≠ it → s.heap.get? b = some o → h'.get? b = some o) → h'.get? s.heap.objs.size = some { cls := .type "list", dict := none, data := .seq acc c', slots := #[] } →
      ItemsOf (fun i v => items[items.size - 1 - i]? = some v) acc items.size → Q (.ref s.heap.objs.size) { s with heap := h', toks := tk }) :
    wpAny (model prog w) A (call (.type "list") [.ref it]) Q E s := by
  obtain ⟨oi, hoi, _⟩ := id hit
  obtain ⟨ol, hol, _⟩ := id hl
  refine callType_codes (Q₁ := fun obj s₁ => obj = .ref s.heap.objs.size ∧ s₁ = { s with heap := s.heap.push { cls := .type "list", data := .seq #[] } }) F.called_list (F.typeCall_list_1 _) F.entry_list_init
    (code_list_new _ ⟨rfl, rfl⟩) fun obj s₁ h₁ => ?_
  obtain ⟨rfl, rfl⟩ := h₁
  have hS : (s.heap.push { cls := .type "list", data := .seq #[] }).get? s.heap.objs.size = some { cls := .type "list", data := .seq #[] } := Heap.get?_push_size _ rfl
  have hSi : s.heap.objs.size ≠ it := Nat.ne_of_gt (Heap.lt_size hoi)
  have hSl : s.heap.objs.size ≠ l := Nat.ne_of_gt (Heap.lt_size hol)
  refine ⟨⟨_, hS, rfl⟩, F.args_list_init_2 _ _, ?_⟩
  show wpAny _ _ (do let old ← Builtin.List.listItems (.ref s.heap.objs.size); Builtin.List.listUpdate (.ref s.heap.objs.size) (fun _ => #[]); letGo old.toList.reverse; Builtin.List.listExtendWith (.ref s.heap.objs.size) (.ref it) .none) _ _ _
  refine wpAny_bind ?_
  unfold Builtin.List.listItems
  refine wpAny_bind (wpAny_seqItems hS rfl (wpAny_pure ?_))
  show wpAny _ _ (updateSeq s.heap.objs.size (fun _ => #[]) >>= fun _ => letGo (#[] : Array Value).toList.reverse >>= fun _ => Builtin.List.listExtendWith (.ref s.heap.objs.size) (.ref it) .none) _ _ _
  refine wpAny_bind (wpAny_updateSeq hS rfl ?_)
  have hS₂ := Heap.get?_update_self (Obj.mapSeq (fun _ => (#[] : Array Value))) hS rfl
  have oth : ∀ b o, b ≠ s.heap.objs.size → s.heap.get? b = some o → ((s.heap.push { cls := .type "list", data := .seq #[] }).update s.heap.objs.size (Obj.mapSeq (fun _ => (#[] : Array Value)))).get? b = some o :=
    fun b o hb e => (Heap.get?_update_other _ _ (Ne.symm hb)).trans (Heap.get?_push_of_some _ e)
  refine wpAny_bind (wpAny_letGo ?_)
  refine extend_rev (A := A.in1) (s := { s with heap := (s.heap.push { cls := .type "list", data := .seq #[] }).update s.heap.objs.size (Obj.mapSeq (fun _ => (#[] : Array Value))) }) hh (hit.at fun o e => oth it o (Ne.symm hSi) e) ?_ hne hn _ .none _ hS₂ hSi hSl fun h' tk acc c' hk hS' hacc => ?_
  · obtain ⟨o, e, r⟩ := hl
    exact ⟨o, oth l o (Ne.symm hSl) e, r⟩
  · exact ⟨rfl, hQ h' tk acc c' (fun b o hb e => hk b o (Nat.ne_of_lt (Heap.lt_size e)) hb (oth b o (Nat.ne_of_lt (Heap.lt_size e)) e)) hS' hacc⟩
end
/-- list(reversed(e)) of a list -/
theorem pe_listRev {X : Cx} {e : Expr} {te : TE} {p1 p2 pos pos2 : Pos} (hg : Gl X "list") (hm : X.mg "list" = none) (hg2 : Gl X "reversed") (hm2 : X.mg "reversed" = none) (hcalm : X.calm = true) (he : PE X e te)
    (hs : starEach [e] X.env = [(false, eval e X.env)]) (hs2 : starEach [.Call (.Name "reversed" p2) [e] [] pos2] X.env = [(false, eval (.Call (.Name "reversed" p2) [e] [] pos2) X.env)]) :
    PE X (.Call (.Name "list" p1) [.Call (.Name "reversed" p2) [e] [] pos2] [] pos) (fun σ H Q => te σ H fun x H1 => ∃ a vs, x = .ref a ∧ SqL X.K H1 a vs ∧ ∀ l, H1 l = none → Q (.ref l) (upd H1 l (.lst vs.reverse))) := by
  refine ⟨fun pins s σ H Q I h => ?_⟩
  refine wpAny_Call_Name_kw (ld_blt I hg hm PyProof.Rows.boot_list ?_)
  refine PyProof.Rows.callWith_type1 ?_ hs2 rfl
  rw [hs2]
  show wpAny _ _ (spliced ((false, eval (.Call (.Name "reversed" p2) [e] [] pos2) X.env) :: [])) _ _ s
  refine Calls.spliced_cons ?_
  refine wpAny_Call_Name_kw (ld_blt I hg2 hm2 PyProof.Rows.boot_reversed ?_)
  refine PyProof.Rows.callWith_type1 ?_ hs rfl
  rw [hs]
  show wpAny _ _ (spliced ((false, eval e X.env) :: [])) _ _ s
  refine Calls.spliced_cons (thn (he.run pins s σ H _ I h) fun u s1 ⟨x, H1, I1, r1, a, vs, ex, hq, q⟩ => Calls.spliced_nil ?_)
  subst ex
  cases r1
  obtain ⟨its, rv, p', hz⟩ := I1.list hq
  have hvl := rv.length
  refine call_reversed_list p'.isList ?_
  refine Calls.spliced_nil ?_
  have I2 : Inv X pins σ H1 { s1 with heap := s1.heap.push (revObj a ((its.toArray.size : Int) - 1)) } := I1.kept (t' := s1.toks) fun b ob e => Heap.get?_push_of_some _ e
  have hit : (s1.heap.push (revObj a ((its.toArray.size : Int) - 1))).IsRevIter s1.heap.objs.size a ((its.toArray.size : Int) - 1) := ⟨_, Heap.get?_push_size _ rfl, rfl, rfl⟩
  have hl2 : (s1.heap.push (revObj a ((its.toArray.size : Int) - 1))).IsList a its.toArray := p'.isList.push _
  obtain ⟨oa, hoa, _⟩ := id p'.isList
  have hne : a ≠ s1.heap.objs.size := Nat.ne_of_lt (Heap.lt_size hoa)
  refine call_list_revIter (s := { s1 with heap := s1.heap.push (revObj a ((its.toArray.size : Int) - 1)) }) (I2.ok.hd hcalm) hit hl2 hne (by rw [List.size_toArray, ← hvl]; omega) fun h' tk acc c' kp e hacc => ?_
  have hsz : (s1.heap.push (revObj a ((its.toArray.size : Int) - 1))).objs.size = s1.heap.objs.size + 1 := Heap.size_push _ _
  have eacc : acc.toList = its.reverse := by
    apply List.ext_getElem?
    intro j
    by_cases hj : j < acc.size
    · have h1 := hacc.2 j acc[j] (by simp [hj])
      have hj2 : j < its.length := by have := hacc.1; simp at this; omega
      rw [Array.getElem?_toList, Array.getElem?_eq_getElem hj, ← h1, List.getElem?_reverse hj2]
      simp
    · have h2 : its.length ≤ j := by have := hacc.1; simp at this; omega
      rw [List.getElem?_eq_none (by simpa using hj), List.getElem?_eq_none (by simpa using h2)]
  have rvr : Vals vs.reverse acc.toList := by
    rw [eacc]
    have : ∀ {xs : List V} {us : List Value}, Vals xs us → Vals xs.reverse us.reverse := fun r => by
      induction r with
      | nil => exact .nil
      | cons a t ih =>
        rw [List.reverse_cons, List.reverse_cons]
        exact ih.append (.cons a .nil)
    exact this rv
  have new : ObjOk X.prog X.w (upd H1 (s1.heap.push (revObj a ((its.toArray.size : Int) - 1))).objs.size (.lst vs.reverse)) h' (s1.heap.push (revObj a ((its.toArray.size : Int) - 1))).objs.size (.lst vs.reverse) :=
    ⟨by rw [List.length_reverse]; omega, acc.toList, c', rvr, by rw [e]⟩
  have I3 := I2.turnedNew (h' := h') (t' := tk) (ch := [s1.heap.objs.size]) (fun b ob hb q => kp b ob (by simpa using hb) q) (fun b hb => by
    have eb : b = s1.heap.objs.size := by simpa using hb
    subst eb
    exact I1.fpOk (Nat.le_refl _) (I1.hok.fresh (Nat.le_refl _))) (Nat.le_refl _) new
  exact ⟨.ref _, _, I3, rfl, q _ (I1.hok.fresh (by rw [hsz]; omega))⟩
variable {S : Sig}
@[simp] def gListRev : List D → Option D
  | [.list ds] => if imms ds = true then some (.list ds.reverse) else none
  | _ => none
theorem Reps.rev {K : PySem.W.Frag} {H : Hp} : ∀ {ds : List D} {vs : List V}, Reps K H vs ds [] → Reps K H vs.reverse ds.reverse []
  | [], vs, r => by
    have := r.length
    have e : vs = [] := List.eq_nil_of_length_eq_zero this
    subst e
    exact .nil
  | d :: ds, vs, r => by
    generalize e : ([] : List Addr) = F at r
    cases r with
    | @cons v _ F1 vs _ G1 r1 rt =>
      have e1 : F1 = [] ∧ G1 = [] := List.append_eq_nil_iff.mp e.symm
      obtain ⟨rfl, rfl⟩ := e1
      rw [List.reverse_cons, List.reverse_cons]
      have := (Reps.rev rt).append (.cons r1 .nil)
      simpa using this
theorem de_listRev {a : Expr} {p1 p2 pos pos2 : Pos} {κs : List Kd} {M : List Nat} {f : EM (List D)} (n : BtS S "list") (n2 : BtS S "reversed") (hA : DA S [a] κs M f) (hp : Plain [a]) (hp2 : Plain [.Call (.Name "reversed" p2) [a] [] pos2]) :
    DE S (.Call (.Name "list" p1) [.Call (.Name "reversed" p2) [a] [] pos2] [] pos) .own M (cV f gListRev) := by
  have g : ∀ X, Fits S X → PE X (.Call (.Name "list" p1) [.Call (.Name "reversed" p2) [a] [] pos2] [] pos) (fun σ H Q => tBA S [a] σ H fun vs H1 => l1 (fun x H1 Q => ∃ a vs, x = .ref a ∧ SqL S.K H1 a vs ∧ ∀ l, H1 l = none → Q (.ref l) (upd H1 l (.lst vs.reverse))) vs H1 Q) := fun X hX => by
    have := pe_listRev (p1 := p1) (p2 := p2) (pos := pos) (pos2 := pos2) (n.g hX) (n.m hX) (n2.g hX) (n2.m hX) hX.calm (pe_tB (e := a) hX) (hp.1 _) (hp2.1 _)
    rw [hX.K] at this
    exact this
  refine de_v hA ⟨_, g⟩ fun ds dz h => ?_
  unfold gListRev at h
  split at h
  · split at h
    · rename_i hi
      cases h
      refine ⟨_, g, fun H vs F Q r k => ?_⟩
      obtain ⟨v, _, rfl, r1⟩ := r.i1
      obtain ⟨q, ws, G, rfl, hq, s⟩ := lst_read r1
      exact ⟨q, ws, rfl, hq, fun l hl => k _ _ _ (NewV.lst hl (s.imm' hi).rev)⟩
    · cases h
  · cases h
end DL
set_option maxHeartbeats 2000000
/-! DL14: constants of the module; all, any, sum; methods of texts; is None as a test; weaker lists of slots. -/
namespace DL
open PySem PySem.Spec PyProof.Rows L2
variable {S : Sig}
theorem DSs.mono {sts : List Stmt} {M M' A A' : List Nat} {g : EM Fl} (h : DSs S sts M A g) (hM : ∀ i ∈ M, i ∈ M') (hA : ∀ i ∈ A, i ∈ A') : DSs S sts M' A' g := fun σ H δ Fs D r E s hf k => h σ H δ Fs D r E s hf (k.mono hM hA)
theorem DSs.monoD {sts : List Stmt} {M M' A A' : List Nat} {g : EM Fl} (h : DSs S sts M A g) (hM : (M.all fun i => M'.contains i) = true) (hA : (A.all fun i => A'.contains i) = true) : DSs S sts M' A' g :=
  h.mono (fun i m => by have := List.all_eq_true.mp hM i m; simpa using this) fun i m => by have := List.all_eq_true.mp hA i m; simpa using this
/-- a constant of the module's top -/
structure GlobS (mg : Str → Option Value) (K : PySem.W.Frag) (x : Str) (d : D) : Prop where
  ex : ∃ u v, mg x = some u ∧ RelV v u ∧ ∀ H, Rep K H v d []
theorem de_glob {x : Str} {d : D} {pos : Pos} (g : GlobS S.mg S.K x d) (gl : S.sc.names.lookup x = some .globalImplicit) (hdb : (x == ("__debug__" : Str)) = false := by decide) : DE S (.Name x pos) .own [] (cC d) := by
  obtain ⟨u, v, hm, r, rep⟩ := g.ex
  exact de_const (fun X hX => pe_glob (by show X.env.scope.names.lookup x = _; rw [hX.sc]; exact gl) (by rw [hX.mg]; exact hm) r hdb) rep
section
variable {a : Expr} {pos p : Pos} {κ : Kd} {κs : List Kd} {M : List Nat} {f : EM (List D)}
@[simp] def boolsD : List D → Option (List Bool)
  | [] => some []
  | .bool b :: r => (boolsD r).map (b :: ·)
  | _ => none
theorem bools_V {K : PySem.W.Frag} {H : Hp} : ∀ {ds : List D} {vs : List V} {F : List Addr} {bs : List Bool}, Reps K H vs ds F → boolsD ds = some bs → vs = bs.map V.bl
  | [], _, _, _, r, h => by cases r; cases h; rfl
  | d :: ds, _, _, bs, r, h => by
    cases r with
    | cons r1 rt =>
      cases d with
      | bool b =>
        unfold boolsD at h
        cases e : boolsD ds with
        | none => rw [e] at h; cases h
        | some cs =>
          rw [e] at h
          cases h
          rw [r1.iBl, bools_V rt e]
          rfl
      | _ => cases h
@[simp] def gAll : List D → Option D
  | [.list ds] => (boolsD ds).map fun bs => .bool (bs.all id)
  | _ => none
@[simp] def gAny : List D → Option D
  | [.list ds] => (boolsD ds).map fun bs => .bool (bs.any id)
  | _ => none
theorem de_all (n : BtS S "all") (hA : DA S [a] κs M f) (hp : Plain [a]) : DE S (.Call (.Name "all" p) [a] [] pos) .own M (cV f gAll) := by
  have g : ∀ X, Fits S X → PE X (.Call (.Name "all" p) [a] [] pos) (fun σ H Q => tBA S [a] σ H fun vs H1 => rAll S.K vs H1 Q) := f_callB n (fun X h => by have e := cr_all (X := X) h.calm; rw [h.K] at e; exact e) (by decide +kernel) hp
  refine de_v hA ⟨_, g⟩ fun ds dz h => ?_
  unfold gAll at h
  split at h
  · rename_i xs
    cases e : boolsD xs with
    | none => rw [e] at h; cases h
    | some bs =>
      rw [e] at h
      cases h
      refine ⟨_, g, fun H vs F Q r k => ?_⟩
      obtain ⟨v, _, rfl, r1⟩ := r.i1
      obtain ⟨q, ws, G, rfl, hq, s⟩ := lst_read r1
      have ew := bools_V s e
      subst ew
      exact ⟨q, bs, rfl, hq, k _ _ _ (.same (.bl _))⟩
  · cases h
theorem de_any (n : BtS S "any") (hA : DA S [a] κs M f) (hp : Plain [a]) : DE S (.Call (.Name "any" p) [a] [] pos) .own M (cV f gAny) := by
  have g : ∀ X, Fits S X → PE X (.Call (.Name "any" p) [a] [] pos) (fun σ H Q => tBA S [a] σ H fun vs H1 => rAny S.K vs H1 Q) := f_callB n (fun X h => by have e := cr_any (X := X) h.calm; rw [h.K] at e; exact e) (by decide +kernel) hp
  refine de_v hA ⟨_, g⟩ fun ds dz h => ?_
  unfold gAny at h
  split at h
  · rename_i xs
    cases e : boolsD xs with
    | none => rw [e] at h; cases h
    | some bs =>
      rw [e] at h
      cases h
      refine ⟨_, g, fun H vs F Q r k => ?_⟩
      obtain ⟨v, _, rfl, r1⟩ := r.i1
      obtain ⟨q, ws, G, rfl, hq, s⟩ := lst_read r1
      have ew := bools_V s e
      subst ew
      exact ⟨q, bs, rfl, hq, k _ _ _ (.same (.bl _))⟩
  · cases h
@[simp] def intsD : List D → Option (List Int)
  | [] => some []
  | .int b :: r => (intsD r).map (b :: ·)
  | _ => none
theorem ints_V {K : PySem.W.Frag} {H : Hp} : ∀ {ds : List D} {vs : List V} {F : List Addr} {bs : List Int}, Reps K H vs ds F → intsD ds = some bs → vs = bs.map V.int
  | [], _, _, _, r, h => by cases r; cases h; rfl
  | d :: ds, _, _, bs, r, h => by
    cases r with
    | cons r1 rt =>
      cases d with
      | int b =>
        unfold intsD at h
        cases e : intsD ds with
        | none => rw [e] at h; cases h
        | some cs =>
          rw [e] at h
          cases h
          rw [r1.iInt, ints_V rt e]
          rfl
      | _ => cases h
@[simp] def gSum : List D → Option D
  | [.list ds] => (intsD ds).map fun bs => .int bs.sum
  | _ => none
theorem de_sum (n : BtS S "sum") (hA : DA S [a] κs M f) (hp : Plain [a]) : DE S (.Call (.Name "sum" p) [a] [] pos) .own M (cV f gSum) := by
  have g : ∀ X, Fits S X → PE X (.Call (.Name "sum" p) [a] [] pos) (fun σ H Q => tBA S [a] σ H fun vs H1 => rSum S.K vs H1 Q) := f_callB n (fun X h => by have e := cr_sum (X := X) h.calm; rw [h.K] at e; exact e) (by decide +kernel) hp
  refine de_v hA ⟨_, g⟩ fun ds dz h => ?_
  unfold gSum at h
  split at h
  · rename_i xs
    cases e : intsD xs with
    | none => rw [e] at h; cases h
    | some bs =>
      rw [e] at h
      cases h
      refine ⟨_, g, fun H vs F Q r k => ?_⟩
      obtain ⟨v, _, rfl, r1⟩ := r.i1
      obtain ⟨q, ws, G, rfl, hq, s⟩ := lst_read r1
      have ew := ints_V s e
      subst ew
      exact ⟨q, bs, rfl, hq, k _ _ _ (.same (.int _))⟩
  · cases h
/-! methods of texts -/
@[simp] def gUpper : List D → Option D
  | [.str z] => if z.length ≤ 1000000 then some (.str (Txt.upper z)) else none
  | _ => none
theorem de_upper {apos : Pos} (hA : DA S [a] κs M f) (hbase : ∀ env, attributeBase a "upper" env (eval a env) = eval a env) (hline : (apos.endLine == pos.line) = true) : DE S (.Call (.Attribute a "upper" apos) [] [] pos) .own M (cV f gUpper) := by
  have g : ∀ X, Fits S X → PE X (.Call (.Attribute a "upper" apos) [] [] pos) (fun σ H Q => tBA S [a] σ H fun vs H1 => l1 (fun x H1 Q => (∃ a, x = V.str a) ∧ ∃ a, x = V.str a ∧ ([] : List V) = [] ∧ a.length ≤ 5592405 ∧ Q (.str (Txt.upper a)) H1) vs H1 Q) := fun X hX => pe_upper (pe_tB hX) (hbase _) hline
  refine de_v hA ⟨_, g⟩ fun ds dz h => ?_
  unfold gUpper at h
  split at h
  · split at h
    · rename_i z hl
      cases h
      refine ⟨_, g, fun H vs F Q r k => ?_⟩
      obtain ⟨v, _, rfl, r1⟩ := r.i1
      exact ⟨⟨z, r1.iStr⟩, z, r1.iStr, rfl, by omega, k _ _ _ (.same (.str _))⟩
    · cases h
  · cases h
def gSplit : List D → Option D
  | [.str a, .str b] => if (b.length == 0) = false ∧ a.length ≤ 1000000 ∧ (Txt.split a b).length ≤ 1000000 then some (.list ((Txt.split a b).map PyData.str)) else none
  | _ => none
theorem reps_strs {K : PySem.W.Frag} {H : Hp} : ∀ {xs : List Str}, Reps K H (xs.map V.str) (xs.map PyData.str) []
  | [] => .nil
  | x :: r => .cons (F := []) (.str x) reps_strs
theorem de_split {b : Expr} {apos : Pos} (hA : DA S [a, b] κs M f) (hp : Plain [b]) (hbase : ∀ env, attributeBase a "split" env (eval a env) = eval a env) (hline : (apos.endLine == pos.line) = true)
    (hc : ∀ X, Fits S X → PE X (.Call (.Attribute a "split" apos) [b] [] pos) (tM1 (fun x xs H Q => ∃ a b, x = .str a ∧ xs = [.str b] ∧ (b.length == 0) = false ∧ a.length + 2 ≤ sizeLine ∧ rNewStrs (Txt.split a b) H Q) (tB S a) (tB S b))) : True := trivial
end
/-! tests x is None, x is not None -/
theorem dt_isN {a : Expr} {κ : Kd} {M : List Nat} {f : EM D} {j : Nat} {pos pos' : Pos} (h : DE S a κ M f) : DT S (.Compare a [.Is] [.Constant .none j pos'] pos) M (EM.bind f fun d δ => some (.ok (isN d) δ)) := fun σ H δ Fs Q r E s hf k => by
  have g : ∀ X, Fits S X → PT X (.Compare a [.Is] [.Constant .none j pos'] pos) (fun σ H Q => tB S a σ H fun x H1 => V.non = .non ∧ ∃ k, V.bl (decide (x = .non)) = .bl k ∧ Q k H1) := fun X hX => pt_cmpR op_isN (pe_tB hX) pe_non (nomark _)
  refine ⟨_, g, ?_⟩
  rcases bind_some hf with ⟨d, δ1, h1, h2⟩ | ⟨x, h1, rfl⟩
  · cases h2
    refine h σ H δ Fs _ _ E s h1 fun v H1 Fs1 F p o => ?_
    obtain ⟨G, r⟩ := o.rep p.env
    exact ⟨rfl, _, rfl, by rw [isN_V r]; exact k H1 Fs1 p.dropR⟩
  · exact h σ H δ Fs _ _ E s h1 k
theorem dt_notN {a : Expr} {κ : Kd} {M : List Nat} {f : EM D} {j : Nat} {pos pos' : Pos} (h : DE S a κ M f) : DT S (.Compare a [.IsNot] [.Constant .none j pos'] pos) M (EM.bind f fun d δ => some (.ok (!isN d) δ)) := fun σ H δ Fs Q r E s hf k => by
  have g : ∀ X, Fits S X → PT X (.Compare a [.IsNot] [.Constant .none j pos'] pos) (fun σ H Q => tB S a σ H fun x H1 => V.non = .non ∧ ∃ k, V.bl (!decide (x = .non)) = .bl k ∧ Q k H1) := fun X hX => pt_cmpR op_notN (pe_tB hX) pe_non (nomark _)
  refine ⟨_, g, ?_⟩
  rcases bind_some hf with ⟨d, δ1, h1, h2⟩ | ⟨x, h1, rfl⟩
  · cases h2
    refine h σ H δ Fs _ _ E s h1 fun v H1 Fs1 F p o => ?_
    obtain ⟨G, r⟩ := o.rep p.env
    exact ⟨rfl, _, rfl, by rw [isN_V r]; exact k H1 Fs1 p.dropR⟩
  · exact h σ H δ Fs _ _ E s h1 k
/-- an int for sure -/
@[simp] def cIntC (f : EM D) : EM D := EM.bind f fun d δ => match d with
  | .int i => some (.ok (.int i) δ)
  | _ => none
theorem de_intc {e : Expr} {M : List Nat} {f : EM D} (h : DE S e .own M f) : DE S e .own M (cIntC f) := fun σ H δ Fs Q r E s hf k => by
  rcases bind_some hf with ⟨d, δ1, h1, h2⟩ | ⟨x, h1, rfl⟩
  · cases d with
    | int i => cases h2; exact h σ H δ Fs Q _ E s h1 k
    | _ => cases h2
  · exact h σ H δ Fs Q _ E s h1 k
theorem intc_ok {f : EM D} {δ δ' : DEnv} {d : D} (h : cIntC f δ = some (.ok d δ')) : ∃ i, d = .int i := by
  rcases bind_some h with ⟨d, δ1, h1, h2⟩ | ⟨x, h1, h2⟩
  · cases d with
    | int i => cases h2; exact ⟨i, rfl⟩
    | _ => cases h2
  · cases h2
end DL
set_option maxHeartbeats 2000000
/-! DL15: running the combinators: one lemma a combinator. -/
namespace DL
open PySem PySem.Spec PyProof.Rows L2
section
variable {α β : Type} {δ δ1 δ2 δ3 : DEnv}
theorem r_bind {f : EM α} {g : α → EM β} {a : α} {r : Option (Out β)} (h : f δ = some (.ok a δ1)) (k : g a δ1 = r) : EM.bind f g δ = r := by
  unfold EM.bind; rw [h]; exact k
theorem r_c {d : D} : cC d δ = some (.ok d δ) := rfl
theorem r_sl {i : Nat} {d : D} (h : δ[i]? = some (some d)) : cSl i δ = some (.ok d δ) := by unfold cSl; rw [h]
theorem r_mv {i : Nat} {d : D} (h : δ[i]? = some (some d)) : cMv i δ = some (.ok d (δ.set i none)) := by unfold cMv; rw [h]
theorem r_imm {f : EM D} {d : D} (h : f δ = some (.ok d δ1)) (i : imm d = true) : cImm f δ = some (.ok d δ1) := r_bind h (by rw [if_pos i])
theorem r_args_nil : cArgs [] δ = some (.ok [] δ) := rfl
theorem r_args {κ : Kd} {f : EM D} {fs : List (Kd × EM D)} {d d' : D} {ds : List D} (h : f δ = some (.ok d δ1)) (t : cArgs fs δ1 = some (.ok ds δ2)) (e : reread κ d δ2 = some d') : cArgs ((κ, f) :: fs) δ = some (.ok (d' :: ds) δ2) :=
  r_bind h (r_bind t (by rw [e]))
theorem r_V {f : EM (List D)} {g : List D → Option D} {ds : List D} {d : D} (h : f δ = some (.ok ds δ1)) (e : g ds = some d) : cV f g δ = some (.ok d δ1) := r_bind h (by rw [e])
theorem r_bl {f : EM D} {b : Bool} (h : f δ = some (.ok (.bool b) δ1)) : cBl f δ = some (.ok b δ1) := r_bind h rfl
theorem r_tr {f : EM D} {d : D} {b : Bool} (h : f δ = some (.ok d δ1)) (e : trD d = some b) : cTr f δ = some (.ok b δ1) := r_bind h (by rw [e])
theorem r_not {f : EM Bool} {b : Bool} (h : f δ = some (.ok b δ1)) : cNot f δ = some (.ok (!b) δ1) := r_bind h rfl
theorem r_and {f g : EM Bool} {b : Bool} {r : Option (Out Bool)} (h : f δ = some (.ok b δ1)) (k : (if b = true then g δ1 else some (.ok false δ1)) = r) : cAnd f g δ = r := r_bind h k
theorem r_or {f g : EM Bool} {b : Bool} {r : Option (Out Bool)} (h : f δ = some (.ok b δ1)) (k : (if b = true then some (.ok true δ1) else g δ1) = r) : cOr f g δ = r := r_bind h k
theorem r_ofB {f : EM Bool} {b : Bool} (h : f δ = some (.ok b δ1)) : cOfB f δ = some (.ok (.bool b) δ1) := r_bind h rfl
theorem r_ifE {t : EM Bool} {f g : EM D} {b : Bool} {r : Option (Out D)} (h : t δ = some (.ok b δ1)) (k : (if b = true then f δ1 else g δ1) = r) : cIfE t f g δ = r := r_bind h k
theorem r_andV {f g : EM D} {b : Bool} {r : Option (Out D)} (h : f δ = some (.ok (.bool b) δ1)) (k : (if b = true then g δ1 else some (.ok (.bool false) δ1)) = r) : cAndV f g δ = r := r_bind h (by rw [← k]; cases b <;> rfl)
theorem r_orV {f g : EM D} {b : Bool} {r : Option (Out D)} (h : f δ = some (.ok (.bool b) δ1)) (k : (if b = true then some (.ok (.bool true) δ1) else g δ1) = r) : cOrV f g δ = r := r_bind h (by rw [← k]; cases b <;> rfl)
theorem r_call {κs : List Kd} {F : EM D} {mp : List Nat} {f : EM (List D)} {ds : List D} {d : D} (h : f δ = some (.ok ds δ1)) (e : F (ds.map some) = some (.ok d δ2)) : cCall κs F mp f δ = some (.ok d (backD mp κs δ2 δ1)) := r_bind h (by rw [e])
theorem r_seq {f g : EM Fl} {r : Option (Out Fl)} (h : f δ = some (.ok .nx δ1)) (k : g δ1 = r) : cSeq f g δ = r := by unfold cSeq; rw [h]; exact k
def contF (fl : Fl) (g : EM Fl) (δ : DEnv) : Option (Out Fl) := match fl with
  | .nx => g δ
  | fl => some (.ok fl δ)
theorem r_seqM {f g : EM Fl} {fl : Fl} {r : Option (Out Fl)} (h : f δ = some (.ok fl δ1)) (k : contF fl g δ1 = r) : cSeq f g δ = r := by
  unfold cSeq
  rw [h]
  cases fl <;> exact k
theorem r_cont {g : EM Fl} {r : Option (Out Fl)} (k : g δ = r) : contF .nx g δ = r := k
theorem r_contR {g : EM Fl} {d : D} : contF (.rt d) g δ = some (.ok (.rt d) δ) := rfl
theorem it_T {α : Type} {b : Bool} {x y r : α} (h : b = true) (k : x = r) : (if b = true then x else y) = r := by rw [if_pos h]; exact k
theorem it_F {α : Type} {b : Bool} {x y r : α} (h : b = false) (k : y = r) : (if b = true then x else y) = r := by rw [h]; exact k
theorem r_seqR {f g : EM Fl} {d : D} (h : f δ = some (.ok (.rt d) δ1)) : cSeq f g δ = some (.ok (.rt d) δ1) := by unfold cSeq; rw [h]
theorem r_nx : cNx δ = some (.ok .nx δ) := rfl
theorem r_if {t : EM Bool} {f g : EM Fl} {b : Bool} {r : Option (Out Fl)} (h : t δ = some (.ok b δ1)) (k : (if b = true then f δ1 else g δ1) = r) : cIfS t f g δ = r := r_bind h (by rw [← k]; split <;> rfl)
theorem r_ifT {t : EM Bool} {f g : EM Fl} {r : Option (Out Fl)} (h : t δ = some (.ok true δ1)) (k : f δ1 = r) : cIfS t f g δ = r := r_if h k
theorem r_ifF {t : EM Bool} {f g : EM Fl} {r : Option (Out Fl)} (h : t δ = some (.ok false δ1)) (k : g δ1 = r) : cIfS t f g δ = r := r_if h k
theorem r_ret {f : EM D} {d : D} (h : f δ = some (.ok d δ1)) : cRet f δ = some (.ok (.rt d) δ1) := r_bind h rfl
theorem r_retN : cRetN δ = some (.ok (.rt .none) δ) := rfl
theorem r_drop {f : EM D} {d : D} (h : f δ = some (.ok d δ1)) : cDrop f δ = some (.ok .nx δ1) := r_bind h rfl
theorem r_asg {i : Nat} {f : EM D} {d : D} (h : f δ = some (.ok d δ1)) (hi : Nat.blt i δ1.length = true) : cAsg i f δ = some (.ok .nx (δ1.set i (some d))) := r_bind h (by rw [if_pos (show i < δ1.length from Nat.le_of_ble_eq_true hi)])
theorem r_asgT {is : List Nat} {f : EM D} {ds : List D} (h : f δ = some (.ok (.tuple ds) δ1)) (e : setsD is ds δ1 = some δ2) : cAsgT is f δ = some (.ok .nx δ2) := r_bind h (by dsimp only; rw [e])
theorem r_augI {i : Nat} {g : Int → Int → Int} {f : EM D} {a b : Int} (h0 : δ[i]? = some (some (.int a))) (h : f δ = some (.ok (.int b) δ1)) (hi : Nat.blt i δ1.length = true) : cAugI i g f δ = some (.ok .nx (δ1.set i (some (.int (g a b))))) := by
  unfold cAugI; rw [h0]; exact r_bind h (by dsimp only; rw [if_pos (show i < δ1.length from Nat.le_of_ble_eq_true hi)])
theorem lstAt_of {j : Nat} {ds : List D} (h : δ[j]? = some (some (.list ds))) : lstAt δ j = some ds := by unfold lstAt; rw [h]
theorem r_app {j : Nat} {f : EM D} {d : D} {ds0 ds : List D} (h0 : δ[j]? = some (some (.list ds0))) (h : f δ = some (.ok d δ1)) (h1 : δ1[j]? = some (some (.list ds))) (hl : ds.length < 1000000) : cApp j f δ = some (.ok .nx (δ1.set j (some (.list (ds ++ [d]))))) := by
  unfold cApp; rw [lstAt_of h0]; exact r_bind h (by rw [lstAt_of h1]; dsimp only; rw [if_pos hl])
theorem r_setI {j : Nat} {fe fi : EM D} {d : D} {ds0 ds : List D} {n : Int} {k : Nat} (h0 : δ[j]? = some (some (.list ds0))) (h : fe δ = some (.ok d δ1)) (g : fi δ1 = some (.ok (.int n) δ2)) (h1 : δ2[j]? = some (some (.list ds))) (e : ixN ds.length n = some k) :
    cSetI j fe fi δ = some (.ok .nx (δ2.set j (some (.list (ds.set k d))))) := by
  unfold cSetI; rw [lstAt_of h0]; exact r_bind h (r_bind g (by rw [lstAt_of h1]; dsimp only; rw [e]))
theorem r_augSI {j : Nat} {gg : Int → Int → Int} {fi fe : EM D} {ds0 ds ds2 : List D} {n old b : Int} {k : Nat} (h0 : δ[j]? = some (some (.list ds0))) (h : fi δ = some (.ok (.int n) δ1)) (h1 : δ1[j]? = some (some (.list ds))) (e : ixN ds.length n = some k) (e2 : ds[k]? = some (.int old))
    (g : fe δ1 = some (.ok (.int b) δ2)) (h2 : δ2[j]? = some (some (.list ds2))) (hl : ds2.length = ds.length) : cAugSI j gg fi fe δ = some (.ok .nx (δ2.set j (some (.list (ds2.set k (.int (gg old b))))))) := by
  unfold cAugSI; rw [lstAt_of h0]
  exact r_bind h (by rw [lstAt_of h1]; dsimp only; rw [e]; dsimp only; rw [e2]; exact r_bind g (by rw [lstAt_of h2]; dsimp only; rw [if_pos hl]))
theorem r_popAt {j : Nat} {f : EM D} {ds0 ds : List D} {i : Int} {k : Nat} {y : D} (h0 : δ[j]? = some (some (.list ds0))) (h : f δ = some (.ok (.int i) δ1)) (h1 : δ1[j]? = some (some (.list ds))) (e : ixN ds.length i = some k) (e2 : ds[k]? = some y) (hi : imm y = true) (hl : ds.length ≤ 1000000) :
    cPopAt j f δ = some (.ok y (δ1.set j (some (.list (ds.eraseIdx k))))) := by
  unfold cPopAt; rw [lstAt_of h0]
  exact r_bind h (by rw [lstAt_of h1]; dsimp only; rw [e]; dsimp only; rw [e2]; dsimp only; rw [if_pos ⟨hi, hl⟩])
theorem r_items {f : EM D} {d : D} {ds : List D} (h : f δ = some (.ok d δ1)) (e : itemsD d = some ds) : cItems f δ = some (.ok ds δ1) := r_bind h (by rw [e])
theorem r_rng {g : List D → Option (List D)} {f : EM (List D)} {ds xs : List D} (h : f δ = some (.ok ds δ1)) (e : g ds = some xs) : cRng g f δ = some (.ok xs δ1) := r_bind h (by rw [e])
theorem r_for {f : EM (List D)} {t : Tg} {b : EM Fl} {items : List D} {r : Option (Out Fl)} (h : f δ = some (.ok items δ1)) (k : cLoop t b items δ1 = r) : cFor f t b δ = r := r_bind h k
theorem r_comp {vs : List Nat} {t : Tg} {f : EM (List D)} {cond : EM Bool} {elt : EM D} {items ys : List D} (h : f δ = some (.ok items δ1)) (hi : vs.all (immAt δ1) = true) (hl : items.length ≤ 1000000) (k : compL vs t cond elt items δ1 = some (.ok ys δ2)) : cComp vs t f cond elt δ = some (.ok (.list ys) (backV δ1 vs δ2)) :=
  r_bind h (by rw [if_pos ⟨hi, hl⟩, k])
theorem r_sl3 {κ : Kd} {fa f1 f2 : EM D} {d d' z : D} {i : Int} {j : D} (h : fa δ = some (.ok d δ1)) (h1 : f1 δ1 = some (.ok (.int i) δ2)) (h2 : f2 δ2 = some (.ok j δ3)) (e : reread κ d δ3 = some d') (e2 : gSl11 [d', .int i, j] = some z) : cSl3 κ fa f1 f2 δ = some (.ok z δ3) :=
  r_bind h (r_bind h1 (r_bind h2 (by rw [e]; dsimp only; rw [e2])))
theorem r_intC {f : EM D} {i : Int} (h : f δ = some (.ok (.int i) δ1)) : cIntC f δ = some (.ok (.int i) δ1) := r_bind h rfl
theorem r_fn {n : Nat} {A : List Nat} {g : EM Fl} {d : D} {δ' δ'' : DEnv} (hA : immA A δ = true) (h : g (δ ++ List.replicate (n - δ.length) none) = some (.ok (.rt d) δ')) (e : finArgs A 0 δ δ' = δ'') : fnD n A g δ = some (.ok d δ'') := by unfold fnD; rw [if_pos hA, h, ← e]
theorem r_fnN {n : Nat} {A : List Nat} {g : EM Fl} {δ' δ'' : DEnv} (hA : immA A δ = true) (h : g (δ ++ List.replicate (n - δ.length) none) = some (.ok .nx δ')) (e : finArgs A 0 δ δ' = δ'') : fnD n A g δ = some (.ok .none δ'') := by unfold fnD; rw [if_pos hA, h, ← e]
end
/-! values -/
theorem v_sub {i j : Int} : gSub [.int i, .int j] = some (.int (i - j)) := rfl
theorem v_mul {i j : Int} (h : CMul i j) : gMul [.int i, .int j] = some (.int (i * j)) := if_pos h
theorem v_fdiv {i j : Int} (h : CDiv i j) : gFdiv [.int i, .int j] = some (.int (i / j)) := if_pos h
theorem v_mod {i j : Int} (h : 0 < j) : gMod [.int i, .int j] = some (.int (i % j)) := if_pos h
theorem v_pow {i j : Int} (h : CPow i j) : gPow [.int i, .int j] = some (.int (i ^ j.toNat)) := if_pos h
theorem v_shl {i j : Int} (h : CPow i j) : gShl [.int i, .int j] = some (.int (i * 2 ^ j.toNat)) := if_pos h
theorem v_adds {x y : Str} (h : x.length + y.length ≤ 1000000) : gAdd [.str x, .str y] = some (.str (x ++ y)) := if_pos h
theorem v_addl {xs ys : List D} (h1 : imms xs = true) (h2 : imms ys = true) (h : xs.length + ys.length ≤ 1000000) : gAdd [.list xs, .list ys] = some (.list (xs ++ ys)) := if_pos ⟨h1, h2, h⟩
theorem v_addt {xs ys : List D} (h1 : imms xs = true) (h2 : imms ys = true) (h : xs.length + ys.length ≤ 1000000) : gAdd [.tuple xs, .tuple ys] = some (.tuple (xs ++ ys)) := if_pos ⟨h1, h2, h⟩
theorem v_tup {ds : List D} (h : ds.length ≤ 1000000) : gTup ds = some (.tuple ds) := if_pos h
theorem v_lst {ds : List D} (h : ds.length ≤ 1000000) : gLst ds = some (.list ds) := if_pos h
theorem v_len_str {z : Str} (h : z.length ≤ 1000000) : gLen [.str z] = some (.int z.length) := by simp [h]
theorem v_len_list {ds : List D} : gLen [.list ds] = some (.int ds.length) := rfl
theorem v_len_tuple {ds : List D} : gLen [.tuple ds] = some (.int ds.length) := rfl
theorem v_ix {d e x : D} (h : ixD d e = some x) (i : imm x = true) : gIx [d, e] = some x := by unfold gIx; dsimp only; rw [h]; dsimp only; rw [if_pos i]
theorem ix_list {ds : List D} {i : Int} {x : D} (h : atI ds i = some x) : ixD (.list ds) (.int i) = some x := h
theorem ix_tuple {ds : List D} {i : Int} {x : D} (h : atI ds i = some x) : ixD (.tuple ds) (.int i) = some x := h
theorem ix_strD {z : Str} {i : Int} {c : Nat} (hl : z.length ≤ 1000000) (h : atI z.cps.toList i = some c) : ixD (.str z) (.int i) = some (.str ⟨#[c]⟩) := by unfold ixD; dsimp only; rw [if_pos hl, h]; rfl
theorem atI_of {α : Type} {xs : List α} {i : Int} {j : Nat} {x : α} (e : i = j) (h : xs[j]? = some x) : atI xs i = some x := by subst e; exact atI_nat h
theorem ixN_of {n : Nat} {i : Int} {j : Nat} (e : i = j) (h : j < n) : ixN n i = some j := by subst e; unfold ixN; rw [if_pos (by omega), if_pos (by omega)]; simp
theorem v_list_l {ds : List D} (h : imms ds = true) : gList [.list ds] = some (.list ds) := if_pos h
theorem v_list_t {ds : List D} (h : imms ds = true) : gList [.tuple ds] = some (.list ds) := if_pos h
theorem v_tuple_l {ds : List D} (h : imms ds = true) : gTuple [.list ds] = some (.tuple ds) := if_pos h
theorem v_tuple_t {ds : List D} (h : imms ds = true) : gTuple [.tuple ds] = some (.tuple ds) := if_pos h
theorem v_rng1 {j : Int} (h : -1000000000 ≤ j ∧ j ≤ 1000000000) : gRng1 [.int j] = some (rangeD 0 j.toNat) := if_pos h
theorem v_rng2 {i j : Int} (h1 : -1000000000 ≤ i ∧ i ≤ 1000000000) (h : -1000000000 ≤ j ∧ j ≤ 1000000000) : gRng2 [.int i, .int j] = some (rangeD i (j - i).toNat) := if_pos ⟨h1, h⟩
end DL
set_option maxHeartbeats 2000000
/-! DL16: what a combinator gives, in the form of a weakest condition. -/
namespace DL
open PySem PySem.Spec PyProof.Rows L2
def wp {α : Type} (r : Option (Out α)) (Q : α → DEnv → Prop) : Prop := ∃ a δ, r = some (.ok a δ) ∧ Q a δ
section
variable {α β : Type} {δ : DEnv}
theorem w_ok {a : α} {Q : α → DEnv → Prop} (h : Q a δ) : wp (some (.ok a δ)) Q := ⟨a, δ, rfl, h⟩
theorem w_mono {r : Option (Out α)} {P Q : α → DEnv → Prop} (h : wp r P) (k : ∀ a δ, P a δ → Q a δ) : wp r Q := by
  obtain ⟨a, δ, e, h⟩ := h
  exact ⟨a, δ, e, k a δ h⟩
theorem w_eq {r : Option (Out α)} {a : α} {Q : α → DEnv → Prop} (e : r = some (.ok a δ)) (h : Q a δ) : wp r Q := ⟨a, δ, e, h⟩
theorem w_bind {f : EM α} {g : α → EM β} {Q : β → DEnv → Prop} (h : wp (f δ) fun a δ1 => wp (g a δ1) Q) : wp (EM.bind f g δ) Q := by
  obtain ⟨a, δ1, e, b, δ2, e2, q⟩ := h
  exact ⟨b, δ2, r_bind e e2, q⟩
theorem w_c {d : D} {Q : D → DEnv → Prop} (h : Q d δ) : wp (cC d δ) Q := w_eq r_c h
theorem w_sl {i : Nat} {d : D} {Q : D → DEnv → Prop} (e : δ[i]? = some (some d)) (h : Q d δ) : wp (cSl i δ) Q := w_eq (r_sl e) h
theorem w_mv {i : Nat} {d : D} {Q : D → DEnv → Prop} (e : δ[i]? = some (some d)) (h : Q d (δ.set i none)) : wp (cMv i δ) Q := w_eq (r_mv e) h
theorem w_imm {f : EM D} {Q : D → DEnv → Prop} (h : wp (f δ) fun d δ1 => imm d = true ∧ Q d δ1) : wp (cImm f δ) Q := by
  obtain ⟨d, δ1, e, i, q⟩ := h
  exact w_eq (r_imm e i) q
theorem w_args_nil {Q : List D → DEnv → Prop} (h : Q [] δ) : wp (cArgs [] δ) Q := w_eq r_args_nil h
theorem w_args {κ : Kd} {f : EM D} {fs : List (Kd × EM D)} {Q : List D → DEnv → Prop} (h : wp (f δ) fun d δ1 => wp (cArgs fs δ1) fun ds δ2 => ∃ d', reread κ d δ2 = some d' ∧ Q (d' :: ds) δ2) : wp (cArgs ((κ, f) :: fs) δ) Q := by
  obtain ⟨d, δ1, e, ds, δ2, e2, d', e3, q⟩ := h
  exact w_eq (r_args e e2 e3) q
theorem w_V {f : EM (List D)} {g : List D → Option D} {Q : D → DEnv → Prop} (h : wp (f δ) fun ds δ1 => ∃ d, g ds = some d ∧ Q d δ1) : wp (cV f g δ) Q := by
  obtain ⟨ds, δ1, e, d, e2, q⟩ := h
  exact w_eq (r_V e e2) q
theorem w_bl {f : EM D} {Q : Bool → DEnv → Prop} (h : wp (f δ) fun d δ1 => ∃ b, d = .bool b ∧ Q b δ1) : wp (cBl f δ) Q := by
  obtain ⟨d, δ1, e, b, rfl, q⟩ := h
  exact w_eq (r_bl e) q
theorem w_tr {f : EM D} {Q : Bool → DEnv → Prop} (h : wp (f δ) fun d δ1 => ∃ b, trD d = some b ∧ Q b δ1) : wp (cTr f δ) Q := by
  obtain ⟨d, δ1, e, b, e2, q⟩ := h
  exact w_eq (r_tr e e2) q
theorem w_not {f : EM Bool} {Q : Bool → DEnv → Prop} (h : wp (f δ) fun b δ1 => Q (!b) δ1) : wp (cNot f δ) Q := by
  obtain ⟨b, δ1, e, q⟩ := h
  exact w_eq (r_not e) q
theorem w_and {f g : EM Bool} {Q : Bool → DEnv → Prop} (h : wp (f δ) fun b δ1 => wp (if b = true then g δ1 else some (.ok false δ1)) Q) : wp (cAnd f g δ) Q := w_bind h
theorem w_or {f g : EM Bool} {Q : Bool → DEnv → Prop} (h : wp (f δ) fun b δ1 => wp (if b = true then some (.ok true δ1) else g δ1) Q) : wp (cOr f g δ) Q := w_bind h
theorem w_ofB {f : EM Bool} {Q : D → DEnv → Prop} (h : wp (f δ) fun b δ1 => Q (.bool b) δ1) : wp (cOfB f δ) Q := by
  obtain ⟨b, δ1, e, q⟩ := h
  exact w_eq (r_ofB e) q
theorem w_ifE {t : EM Bool} {f g : EM D} {Q : D → DEnv → Prop} (h : wp (t δ) fun b δ1 => wp (if b = true then f δ1 else g δ1) Q) : wp (cIfE t f g δ) Q := by
  obtain ⟨b, δ1, e, d, δ2, e2, q⟩ := h
  exact w_eq (r_ifE e e2) q
theorem w_ite {b : Bool} {x y : Option (Out α)} {Q : α → DEnv → Prop} (h1 : b = true → wp x Q) (h2 : b = false → wp y Q) : wp (if b = true then x else y) Q := by
  cases b
  · exact h2 rfl
  · exact h1 rfl
theorem w_call {κs : List Kd} {F : EM D} {mp : List Nat} {f : EM (List D)} {Q : D → DEnv → Prop} (h : wp (f δ) fun ds δ1 => wp (F (ds.map some)) fun d δ2 => Q d (backD mp κs δ2 δ1)) : wp (cCall κs F mp f δ) Q := by
  obtain ⟨ds, δ1, e, d, δ2, e2, q⟩ := h
  exact w_eq (r_call e e2) q
theorem w_seq {f g : EM Fl} {Q : Fl → DEnv → Prop} (h : wp (f δ) fun fl δ1 => wp (contF fl g δ1) Q) : wp (cSeq f g δ) Q := by
  obtain ⟨fl, δ1, e, d, δ2, e2, q⟩ := h
  exact w_eq (r_seqM e e2) q
theorem w_cont {g : EM Fl} {Q : Fl → DEnv → Prop} (k : wp (g δ) Q) : wp (contF .nx g δ) Q := k
theorem w_contR {g : EM Fl} {d : D} {Q : Fl → DEnv → Prop} (k : Q (.rt d) δ) : wp (contF (.rt d) g δ) Q := w_ok k
theorem w_contC {g : EM Fl} {Q : Fl → DEnv → Prop} (k : Q .ct δ) : wp (contF .ct g δ) Q := w_ok k
theorem w_contB {g : EM Fl} {Q : Fl → DEnv → Prop} (k : Q .bk δ) : wp (contF .bk g δ) Q := w_ok k
theorem w_nx {Q : Fl → DEnv → Prop} (k : Q .nx δ) : wp (cNx δ) Q := w_ok k
theorem w_if {t : EM Bool} {f g : EM Fl} {Q : Fl → DEnv → Prop} (h : wp (t δ) fun b δ1 => wp (if b = true then f δ1 else g δ1) Q) : wp (cIfS t f g δ) Q := by
  obtain ⟨b, δ1, e, d, δ2, e2, q⟩ := h
  exact w_eq (r_if e e2) q
theorem w_ret {f : EM D} {Q : Fl → DEnv → Prop} (h : wp (f δ) fun d δ1 => Q (.rt d) δ1) : wp (cRet f δ) Q := by
  obtain ⟨b, δ1, e, q⟩ := h
  exact w_eq (r_ret e) q
theorem w_retN {Q : Fl → DEnv → Prop} (k : Q (.rt .none) δ) : wp (cRetN δ) Q := w_ok k
theorem w_drop {f : EM D} {Q : Fl → DEnv → Prop} (h : wp (f δ) fun d δ1 => Q .nx δ1) : wp (cDrop f δ) Q := by
  obtain ⟨b, δ1, e, q⟩ := h
  exact w_eq (r_drop e) q
theorem w_asg {i : Nat} {f : EM D} {Q : Fl → DEnv → Prop} (h : wp (f δ) fun d δ1 => Nat.blt i δ1.length = true ∧ Q .nx (δ1.set i (some d))) : wp (cAsg i f δ) Q := by
  obtain ⟨b, δ1, e, e2, q⟩ := h
  exact w_eq (r_asg e e2) q
theorem w_asgT {is : List Nat} {f : EM D} {Q : Fl → DEnv → Prop} (h : wp (f δ) fun d δ1 => ∃ ds δ2, d = .tuple ds ∧ setsD is ds δ1 = some δ2 ∧ Q .nx δ2) : wp (cAsgT is f δ) Q := by
  obtain ⟨b, δ1, e, ds, δ2, rfl, e2, q⟩ := h
  exact w_eq (r_asgT e e2) q
theorem w_augI {i : Nat} {g : Int → Int → Int} {f : EM D} {a : Int} {Q : Fl → DEnv → Prop} (h0 : δ[i]? = some (some (.int a))) (h : wp (f δ) fun d δ1 => ∃ b, d = .int b ∧ Nat.blt i δ1.length = true ∧ Q .nx (δ1.set i (some (.int (g a b))))) : wp (cAugI i g f δ) Q := by
  obtain ⟨d, δ1, e, b, rfl, e2, q⟩ := h
  exact w_eq (r_augI h0 e e2) q
theorem w_app {j : Nat} {f : EM D} {ds0 : List D} {Q : Fl → DEnv → Prop} (h0 : δ[j]? = some (some (.list ds0))) (h : wp (f δ) fun d δ1 => ∃ ds, δ1[j]? = some (some (.list ds)) ∧ ds.length < 1000000 ∧ Q .nx (δ1.set j (some (.list (ds ++ [d]))))) : wp (cApp j f δ) Q := by
  obtain ⟨d, δ1, e, ds, e2, hl, q⟩ := h
  exact w_eq (r_app h0 e e2 hl) q
theorem w_setI {j : Nat} {fe fi : EM D} {ds0 : List D} {Q : Fl → DEnv → Prop} (h0 : δ[j]? = some (some (.list ds0))) (h : wp (fe δ) fun d δ1 => wp (fi δ1) fun x δ2 => ∃ n ds k, x = .int n ∧ δ2[j]? = some (some (.list ds)) ∧ ixN ds.length n = some k ∧ Q .nx (δ2.set j (some (.list (ds.set k d))))) : wp (cSetI j fe fi δ) Q := by
  obtain ⟨d, δ1, e, x, δ2, e2, n, ds, k, rfl, e3, e4, q⟩ := h
  exact w_eq (r_setI h0 e e2 e3 e4) q
theorem w_items {f : EM D} {Q : List D → DEnv → Prop} (h : wp (f δ) fun d δ1 => ∃ ds, itemsD d = some ds ∧ Q ds δ1) : wp (cItems f δ) Q := by
  obtain ⟨d, δ1, e, ds, e2, q⟩ := h
  exact w_eq (r_items e e2) q
theorem w_rng {g : List D → Option (List D)} {f : EM (List D)} {Q : List D → DEnv → Prop} (h : wp (f δ) fun ds δ1 => ∃ xs, g ds = some xs ∧ Q xs δ1) : wp (cRng g f δ) Q := by
  obtain ⟨d, δ1, e, ds, e2, q⟩ := h
  exact w_eq (r_rng e e2) q
theorem w_for {f : EM (List D)} {t : Tg} {b : EM Fl} {Q : Fl → DEnv → Prop} (h : wp (f δ) fun items δ1 => wp (cLoop t b items δ1) Q) : wp (cFor f t b δ) Q := w_bind h
theorem w_intC {f : EM D} {Q : D → DEnv → Prop} (h : wp (f δ) fun d δ1 => ∃ i, d = .int i ∧ Q (.int i) δ1) : wp (cIntC f δ) Q := by
  obtain ⟨d, δ1, e, i, rfl, q⟩ := h
  exact w_eq (r_intC e) q
/-- a loop by an invariant: a round goes on, leaves the loop or returns -/
theorem w_loop {t : Tg} {body : EM Fl} {items : List D} {Q : Fl → DEnv → Prop} (Inv : Nat → DEnv → Prop) (h0 : Inv 0 δ)
    (hs : ∀ i d δ, items[i]? = some d → Inv i δ → ∃ δ1, bindT t d δ = some δ1 ∧ wp (body δ1) fun fl δ2 => match fl with
      | .nx => Inv (i + 1) δ2
      | .ct => Inv (i + 1) δ2
      | .bk => Q .nx δ2
      | .rt d => Q (.rt d) δ2) (he : ∀ δ', Inv items.length δ' → Q .nx δ') : wp (cLoop t body items δ) Q := by
  have key : ∀ (rest : List D) (i : Nat) (δ : DEnv), items.drop i = rest → i ≤ items.length → Inv i δ → wp (cLoop t body rest δ) Q := fun rest => by
    induction rest with
    | nil =>
      intro i δ hd hi hI
      have e : i = items.length := by
        have := congrArg List.length hd
        rw [List.length_drop] at this
        simp at this
        omega
      subst e
      exact w_eq rfl (he _ hI)
    | cons d rest ih =>
      intro i δ hd hi hI
      have hlt : i < items.length := by
        have := congrArg List.length hd
        rw [List.length_drop, List.length_cons] at this
        omega
      rw [List.drop_eq_getElem_cons hlt] at hd
      injection hd with h1 h2
      obtain ⟨δ1, e1, fl, δ2, e2, q⟩ := hs i d δ (by rw [List.getElem?_eq_getElem hlt, h1]) hI
      rw [cLoop]
      dsimp only
      rw [e1]
      dsimp only
      rw [e2]
      cases fl with
      | nx => exact ih (i + 1) δ2 h2 hlt q
      | ct => exact ih (i + 1) δ2 h2 hlt q
      | bk => exact w_eq rfl q
      | rt d => exact w_eq rfl q
  exact key items 0 δ rfl (Nat.zero_le _) h0
/-- a comprehension by an invariant over the list built so far -/
theorem w_comp {vs : List Nat} {t : Tg} {f : EM (List D)} {cond : EM Bool} {elt : EM D} {Q : D → DEnv → Prop}
    (h : wp (f δ) fun items δ0 => vs.all (immAt δ0) = true ∧ items.length ≤ 1000000 ∧ ∃ Inv : Nat → DEnv → List D → Prop, Inv 0 δ0 [] ∧
      (∀ i d δ acc, items[i]? = some d → Inv i δ acc → ∃ δ1, bindT t d (wipeD vs δ) = some δ1 ∧ wp (cond δ1) fun b δ2 => if b = true then wp (elt δ2) fun y δ3 => Inv (i + 1) δ3 (acc ++ [y]) else Inv (i + 1) δ2 acc) ∧
      (∀ δ' ys, Inv items.length δ' ys → Q (.list ys) (backV δ0 vs δ'))) : wp (cComp vs t f cond elt δ) Q := by
  obtain ⟨items, δ0, e0, hv, hl, Inv, hI0, hs, he⟩ := h
  have key : ∀ (rest : List D) (i : Nat) (δ : DEnv) (acc : List D), items.drop i = rest → i ≤ items.length → Inv i δ acc → ∃ δ' ys, Inv items.length δ' (acc ++ ys) ∧ compL vs t cond elt rest δ = some (.ok ys δ') := fun rest => by
    induction rest with
    | nil =>
      intro i δ acc hd hi hI
      have e : i = items.length := by
        have := congrArg List.length hd
        rw [List.length_drop] at this
        simp at this
        omega
      subst e
      exact ⟨δ, [], by rw [List.append_nil]; exact hI, rfl⟩
    | cons d rest ih =>
      intro i δ acc hd hi hI
      have hlt : i < items.length := by
        have := congrArg List.length hd
        rw [List.length_drop, List.length_cons] at this
        omega
      rw [List.drop_eq_getElem_cons hlt] at hd
      injection hd with h1 h2
      obtain ⟨δ1, e1, b, δ2, e2, e3⟩ := hs i d δ acc (by rw [List.getElem?_eq_getElem hlt, h1]) hI
      cases b with
      | true =>
        rw [if_pos rfl] at e3
        obtain ⟨y, δ3, e4, e5⟩ := e3
        obtain ⟨δ', ys, h3, h4⟩ := ih (i + 1) δ3 _ h2 hlt e5
        refine ⟨δ', y :: ys, by rw [List.append_assoc] at h3; exact h3, ?_⟩
        rw [compL]
        dsimp only
        rw [e1]
        dsimp only
        exact r_bind e2 (by rw [if_pos rfl]; exact r_bind e4 (r_bind h4 rfl))
      | false =>
        rw [if_neg Bool.false_ne_true] at e3
        obtain ⟨δ', ys, h3, h4⟩ := ih (i + 1) δ2 _ h2 hlt e3
        refine ⟨δ', ys, h3, ?_⟩
        rw [compL]
        dsimp only
        rw [e1]
        dsimp only
        exact r_bind e2 (by rw [if_neg Bool.false_ne_true]; exact h4)
  obtain ⟨δ', ys, h1, h2⟩ := key items 0 δ0 [] rfl (Nat.zero_le _) hI0
  rw [List.nil_append] at h1
  exact w_eq (r_comp e0 hv hl h2) (he _ _ h1)
theorem w_fn {n : Nat} {A : List Nat} {g : EM Fl} {Q : D → DEnv → Prop} (hA : immA A δ = true) (h : wp (g (δ ++ List.replicate (n - δ.length) none)) fun fl δ' => match fl with
    | .rt d => Q d (finArgs A 0 δ δ')
    | .nx => Q .none (finArgs A 0 δ δ')
    | _ => False) : wp (fnD n A g δ) Q := by
  obtain ⟨fl, δ', e, q⟩ := h
  cases fl with
  | nx => exact w_eq (r_fnN hA e rfl) q
  | rt d => exact w_eq (r_fn hA e rfl) q
  | bk => exact q.elim
  | ct => exact q.elim
end
theorem rangeD_len (lo : Int) (n : Nat) : (rangeD lo n).length = n := by simp [rangeD]
theorem rangeD_get {lo : Int} {n i : Nat} {d : D} (h : (rangeD lo n)[i]? = some d) : i < n ∧ d = .int (lo + i) := by
  have hi : i < n := by
    have := (List.getElem?_eq_some_iff.mp h).1
    rwa [rangeD_len] at this
  refine ⟨hi, ?_⟩
  have : (rangeD lo n)[i]? = some (.int (lo + i)) := by simp [rangeD, hi]
  rw [this] at h
  exact (Option.some.inj h).symm
end DL
namespace DL
section
variable {α : Type}
theorem w_iteT {b : Bool} {x y : Option (Out α)} {Q : α → DEnv → Prop} (h : b = true) (k : wp x Q) : wp (if b = true then x else y) Q := by rw [if_pos h]; exact k
theorem w_iteF {b : Bool} {x y : Option (Out α)} {Q : α → DEnv → Prop} (h : b = false) (k : wp y Q) : wp (if b = true then x else y) Q := by rw [h]; exact k
theorem w_iteD {p : Prop} {i : Decidable p} {x y : Option (Out α)} {Q : α → DEnv → Prop} (h1 : p → wp x Q) (h2 : ¬p → wp y Q) : wp (if @decide p i = true then x else y) Q :=
  w_ite (fun h => h1 (of_decide_eq_true h)) (fun h => h2 (of_decide_eq_false h))
theorem w_map0 {F : EM α} {Q : α → DEnv → Prop} (h : wp (F []) Q) : wp (F (List.map some ([] : List D))) Q := h
theorem w_map1 {F : EM α} {a : D} {Q : α → DEnv → Prop} (h : wp (F [some a]) Q) : wp (F (List.map some [a])) Q := h
theorem w_map2 {F : EM α} {a b : D} {Q : α → DEnv → Prop} (h : wp (F [some a, some b]) Q) : wp (F (List.map some [a, b])) Q := h
theorem w_map3 {F : EM α} {a b c : D} {Q : α → DEnv → Prop} (h : wp (F [some a, some b, some c]) Q) : wp (F (List.map some [a, b, c])) Q := h
theorem w_map4 {F : EM α} {a b c d : D} {Q : α → DEnv → Prop} (h : wp (F [some a, some b, some c, some d]) Q) : wp (F (List.map some [a, b, c, d])) Q := h
theorem w_map5 {F : EM α} {a b c d e : D} {Q : α → DEnv → Prop} (h : wp (F [some a, some b, some c, some d, some e]) Q) : wp (F (List.map some [a, b, c, d, e])) Q := h
theorem w_map6 {F : EM α} {a b c d e f : D} {Q : α → DEnv → Prop} (h : wp (F [some a, some b, some c, some d, some e, some f]) Q) : wp (F (List.map some [a, b, c, d, e, f])) Q := h
end
end DL
namespace DL
theorem w_yes {δ : DEnv} {Q : Bool → DEnv → Prop} (h : Q true δ) : wp (cYes δ) Q := w_ok h
theorem p_iteT {P R : Prop} (h : P) : (if true = true then P else R) := by rw [if_pos rfl]; exact h
theorem p_iteF {P R : Prop} (h : R) : (if false = true then P else R) := by rw [if_neg Bool.false_ne_true]; exact h
theorem p_iteB {b : Bool} {P R : Prop} (h1 : b = true → P) (h2 : b = false → R) : (if b = true then P else R) := by
  cases b
  · exact p_iteF (h2 rfl)
  · exact p_iteT (h1 rfl)
end DL
set_option maxHeartbeats 4000000
/-! DL17: enumerate over a tuple. -/
namespace DL
open PySem PySem.Spec PyProof.Rows L2
/-- one argument, any thing that begins a walk -/
theorem meets_enumB1 {v : Value} {o : Obj} {G : Heap → Prop} (B : Begins v o G) :
    Meets (Builtin.«enumerate.__new__» ⟨[.type "enumerate", v], []⟩) (fun _ R s => G s.heap ∧
      R (.ok (.ret (.ref (s.heap.push o).objs.size)))
        { s with heap := (s.heap.push o).push { cls := .type "enumerate", data := .fields #[.none, .bool false, .ref s.heap.objs.size, rawInt 0, .none, .none] } }) :=
  .of_wp fun prog w A R s hh => by
    obtain ⟨hp, g, d, tk, os⟩ := s
    obtain ⟨hG, hh⟩ := hh
    have hse := sub_enumerate
    have hit : ∀ {A' : Around} {E : Value → Shared → Prop} {Q : Value → Shared → Prop}, Q (.ref hp.objs.size) ⟨hp.push o, g, d, tk, os⟩ →
        wpAny (model prog w) A' (pyIter v) Q E ⟨hp, g, d, tk, os⟩ := fun q => B.iter prog w _ _ ⟨hp, g, d, tk, os⟩ _ hG q
    wp_walk using hit
    refine wpAny_stack_any fun st => wpAny_pure ?_
    split
    · rename_i c _ _ _ _ _
      cases (c == Value.type "enumerate")
      · wp_walk using hit
        exact ⟨_, rfl, hh⟩
      · wp_walk using hit
        exact ⟨_, rfl, hh⟩
    · wp_walk using hit
      exact ⟨_, rfl, hh⟩
section
variable {prog : Program} {w : World} {A : Around} {E : Value → Shared → Prop} {s : Shared}
/-- enumerate(v): its two new cells -/
theorem enum_beg1 {v : Value} {o : Obj} {G : Heap → Prop} {Q : Value → Shared → Prop} (B : Begins v o G) (hG : G s.heap)
    (k : ∀ h', IsEnum h' (s.heap.objs.size + 1) s.heap.objs.size 0 .none → h'.get? s.heap.objs.size = some o →
      h'.objs.size = s.heap.objs.size + 2 → (∀ b u, s.heap.get? b = some u → h'.get? b = some u) →
      Q (.ref (s.heap.objs.size + 1)) { s with heap := h' }) : wpAny (model prog w) A (call (.type "enumerate") [v]) Q E s := by
  refine callType_new F.called_enumerate (by decide) (F.typeCall_enumerate_1 _) (F.newCall_enumerate_1 _)
    (fun obj => F.args_object_init_2 obj _) F.entry_enumerate_new (meets_enumB1 B) ⟨hG, ?_⟩
  have hz : (s.heap.push o).objs.size = s.heap.objs.size + 1 := by rw [Heap.size_push]
  show _ ∧ _
  rw [hz]
  generalize hN : ({ cls := .type "enumerate", data := .fields #[.none, .bool false, .ref s.heap.objs.size, rawInt 0, .none, .none] } : Obj) = N
  have he : IsEnum ((s.heap.push o).push N) (s.heap.objs.size + 1) s.heap.objs.size 0 .none := by
    have := Heap.get?_push_size (s.heap.push o) (o := N) (by rw [← hN]; rfl)
    rw [hz, ← hN] at this
    rw [← hN]
    exact this
  refine ⟨⟨_, he, rfl⟩, k _ he ?_ ?_ ?_⟩
  · exact Heap.get?_push_of_some _ (Heap.get?_push_size _ B.free)
  · rw [Heap.size_push, hz]
  · exact fun b u e => Heap.get?_push_of_some _ (Heap.get?_push_of_some _ e)
end
/-- the tuple at a, each item in a new pair -/
def Itet (K : PySem.W.Frag) (a : Addr) : It where
  go i H := ∃ (xs : List V) (x : V), SqT K H a xs ∧ xs[i]? = some x
  yld i H v H' := ∃ T x, v = .ref T ∧ H T = none ∧ H' = upd H T (.tup [.int (i : Nat), x]) ∧ ∀ xs, SqT K H a xs → xs[i]? = some x
  stop i H := ∃ xs : List V, SqT K H a xs ∧ xs.length ≤ i
theorem enum_apart {h : Heap} {e it a : Addr} {c : Int} {old : Value} {items : Array Value} (he : IsEnum h e it c old) (ha : h.IsTuple a items) : e ≠ a := by
  rintro rfl
  obtain ⟨o, ho, hc, _⟩ := ha
  rw [show h.get? e = some _ from he] at ho
  cases ho
  injection hc with z
  exact absurd z (by decide)
/-- a walk over a tuple that is at its end -/
theorem draws_end {prog : Program} {w : World} {A : Around} (hh : A.handled = none) (it t : Addr) (hne : t ≠ it) (items : Array Value) {i : Nat} (hi : items.size ≤ i) :
    Draws prog w A it [it, t] i (fun _ _ => False) (fun j h => j = i ∧ h.IsTupleIter it t i ∧ h.IsTuple t items) where
  live := fun _ _ ⟨_, ⟨o, ho, _⟩, _⟩ => ⟨o, ho⟩
  frame := fun _ _ _ ⟨e, h1, h2⟩ k => ⟨e, h1.at fun o q => k it List.mem_cons_self o q, h2.at fun o q => k t (List.mem_cons_of_mem _ List.mem_cons_self) o q⟩
  item := fun j s Q E hlt ⟨e, _⟩ => absurd e (Nat.ne_of_lt hlt)
  done := fun s Q E ⟨_, h1, h2⟩ k => wpAny_nextOf_tuple_end hh h1 h2 (Array.getElem?_eq_none hi) k
theorem turn_enumT {P : Program} {w : World} {K : PySem.W.Frag} {elts : List Expr} {kk : Nat} {tpos : Pos} (a e it : Addr) :
    Turn P w K (.Tuple elts kk tpos) (Itet K a) [e, it] e (fun i h => (∃ old, IsEnum h e it ((i : Nat) : Int) old) ∧ h.IsTupleIter it a i ∧ e ≠ it) where
  mem := List.mem_cons_self
  obj := fun i h ⟨⟨old, he⟩, ⟨o, ho, hc, hd⟩, hne⟩ b hb => by
    rcases List.mem_cons.mp hb with z | hb
    · subst z; exact ⟨_, he, fun v q => nomatch q⟩
    · have z : b = it := List.mem_singleton.mp hb
      subst z
      exact ⟨o, ho, fun v q => by rw [hd] at q; cases q⟩
  keep := fun i h h' ⟨⟨old, he⟩, hi, hne⟩ k => ⟨⟨old, k e List.mem_cons_self _ he⟩, hi.at fun o q => k it (List.mem_cons_of_mem _ List.mem_cons_self) o q, hne⟩
  item := by
    intro X hP hw hK hc i pins s σ H E I hf st hg
    subst hP hw hK
    obtain ⟨⟨old, he⟩, hit, hne⟩ := st
    obtain ⟨xs, x, hq, hx⟩ := hg
    obtain ⟨its, rv, p, hz⟩ := I.tuple hq
    obtain ⟨u, hu, ru⟩ := rv.get hx
    have pt : s.heap.IsTuple a its.toArray := p
    have hel : e < s.heap.objs.size := Heap.lt_size he
    have hia : a ≠ it := by
      rintro rfl
      obtain ⟨o, ho, hc, _⟩ := hit
      obtain ⟨o2, ho2, hc2, _⟩ := pt
      rw [ho] at ho2
      cases ho2
      rw [hc] at hc2
      injection hc2 with z
      exact absurd z (by decide)
    have hea := enum_apart he pt
    have hlt : i < its.toArray.size := by
      have := (List.getElem?_eq_some_iff.mp hu).1
      simpa using this
    refine wpAny_pyNext_enum_itemD (Draws.tuple (show X.A.in1.handled = none from I.ok.hd hc) it a hia its.toArray) he ⟨hit, pt⟩ hlt hne ?_ fun y h' tk hy ho hit' hT hsz hk => ?_
    · intro m
      rcases List.mem_cons.mp m with z | m
      · exact hne z
      · exact hea (List.mem_singleton.mp m)
    have ey : y = u := by
      have : its.toArray[i]? = some u := by simpa using hu
      rw [this] at hy
      exact (Option.some.inj hy).symm
    subst ey
    refine ⟨_, rfl, wpAny_letOwnedTupleGo_enum (s := { s with heap := h', toks := tk + 1 }) ho fun h'' he' sb => ?_⟩
    have hT2 : h''.get? s.heap.objs.size = some { cls := .type "tuple", data := .seq #[.int i tk, y] } := (sb.2 _ (Nat.ne_of_gt hel)).trans hT
    have new : ObjOk X.prog X.w (upd H s.heap.objs.size (.tup [.int (i : Nat), x])) h'' s.heap.objs.size (.tup [.int (i : Nat), x]) := by
      refine ⟨?_, [.int i tk, y], .cons ⟨_, rfl⟩ (.cons ru .nil), ⟨_, hT2, rfl, _, rfl⟩⟩
      show 2 ≤ sizeLine
      decide
    refine ⟨.ref s.heap.objs.size, _, I.turnedNew (ch := [e, it]) (fun b ob hb q => ?_) hf (Nat.le_refl _) new, rfl, ⟨_, x, rfl, I.hok.fresh (Nat.le_refl _), rfl, fun ys hy => ?_⟩, ⟨⟨y, ?_⟩, ?_, hne⟩, fun b hb => ?_⟩
    · have n1 : b ≠ e := fun z => hb (by rw [z]; exact List.mem_cons_self)
      have n2 : b ≠ it := fun z => hb (by rw [z]; exact List.mem_cons_of_mem _ List.mem_cons_self)
      exact (sb.2 b n1).trans (hk b ob n1 n2 q)
    · rw [I.tuple_inj hy hq]
      exact hx
    · have e1 : ((i + 1 : Nat) : Int) = (i : Int) + 1 := by omega
      rw [e1]; exact he'
    · exact hit'.1.at fun o q => (sb.2 it (Ne.symm hne)).trans q
    · have hb' : b < s.heap.objs.size := by
        rcases List.mem_cons.mp hb with z | hb
        · rw [z]; exact hel
        · rw [List.mem_singleton.mp hb]
          obtain ⟨_, q, _⟩ := hit
          exact Heap.lt_size q
      rw [upd_ne (Nat.ne_of_lt hb')]
      exact (hf b hb).1
  done := by
    intro X hP hw hK hc i pins s σ H E I hf st hg
    subst hP hw hK
    obtain ⟨⟨old, he⟩, hit, hne⟩ := st
    obtain ⟨xs, hq, hx⟩ := hg
    obtain ⟨its, rv, p, hz⟩ := I.tuple hq
    have pt : s.heap.IsTuple a its.toArray := p
    have hl := rv.length
    have hia : a ≠ it := by
      rintro rfl
      obtain ⟨o, ho, hc, _⟩ := hit
      obtain ⟨o2, ho2, hc2, _⟩ := pt
      rw [ho] at ho2
      cases ho2
      rw [hc] at hc2
      injection hc2 with z
      exact absurd z (by decide)
    obtain ⟨f0, f1, f2, f3, f4, f5⟩ := hf it (List.mem_cons_of_mem _ List.mem_cons_self)
    have D := draws_end (prog := X.prog) (w := X.w) (A := X.A.in1) (show X.A.in1.handled = none from I.ok.hd hc) it a hia its.toArray (i := i) (by simp; omega)
    exact wpAny_pyNext_enum_endD D he ⟨rfl, hit, pt⟩ fun h' eb => ⟨rfl, I.turned (t' := s.toks) (fun b o hb q => eb b o hb q) f0 f1 f3 f4 f5⟩
  self := fun A i s Q E ⟨⟨_, he⟩, _⟩ h => wpAny_pyIter_enum he h
def iEnumT (K : PySem.W.Frag) (ta : TA) : TI := fun σ H R => ta σ H fun vs H1 => ∃ a xs, vs = [.ref a] ∧ SqT K H1 a xs ∧ R (Itet K a) H1
theorem pi_enumT {X : Cx} {e : Expr} {ta : TA} {p pos tpos : Pos} {elts : List Expr} {kk : Nat} (hg : Gl X "enumerate") (hm : X.mg "enumerate" = none) (ha : PA X [e] ta) (hs : starEach [e] X.env = [(false, eval e X.env)]) :
    PI X (.Tuple elts kk tpos) (.Call (.Name "enumerate" p) [e] [] pos) (iEnumT X.K ta) where
  run pins s σ H R I h := by
    refine Call_ (ld_blt I hg hm boot_enumerate (PyProof.Rows.callWith_type1 (thn (ha.run pos pins s σ H _ I h) fun us s1 ⟨vs, H1, I1, r1, a, xs, ex, hq, q⟩ => ?_) hs rfl))
    subst ex
    obtain ⟨u, rfl, ru⟩ := vals1 r1
    obtain rfl : u = Value.ref a := ru
    obtain ⟨its, rv, p', hz⟩ := I1.tuple hq
    have pt : s1.heap.IsTuple a its.toArray := p'
    refine enum_beg1 (begins_tuple a its.toArray) pt fun h' he hit hsz hk => wpAny_pyIter_enum he ?_
    have I2 : Inv X pins σ H1 { s1 with heap := h' } := I1.kept (t' := s1.toks) hk
    refine ⟨s1.heap.objs.size + 1, [s1.heap.objs.size + 1, s1.heap.objs.size], _, _, H1, rfl, I2, turn_enumT a (s1.heap.objs.size + 1) s1.heap.objs.size, ⟨⟨.none, he⟩, ⟨_, hit, rfl, rfl⟩, Nat.succ_ne_self _⟩, fun b hb => ?_, q⟩
    have hle : s1.heap.objs.size ≤ b := by
      rcases List.mem_cons.mp hb with z | hb
      · rw [z]; omega
      · rw [List.mem_singleton.mp hb]; exact Nat.le_refl _
    exact I1.fpOk hle (I1.hok.fresh hle)
def enumD (ds : List D) : List D := ds.mapIdx fun i d => PyData.tuple [.int (i : Nat), d]
theorem enumD_len (ds : List D) : (enumD ds).length = ds.length := by simp [enumD]
theorem enumD_get {ds : List D} {i : Nat} {d : D} (h : ds[i]? = some d) : (enumD ds)[i]? = some (.tuple [.int (i : Nat), d]) := by simp [enumD, h]
theorem enumD_of {ds : List D} {i : Nat} {e : D} (h : (enumD ds)[i]? = some e) : ∃ d, ds[i]? = some d ∧ e = .tuple [.int (i : Nat), d] := by
  cases q : ds[i]? with
  | none =>
    have := (List.getElem?_eq_some_iff.mp h).1
    rw [enumD_len] at this
    rw [List.getElem?_eq_none_iff] at q
    omega
  | some d =>
    rw [enumD_get q] at h
    exact ⟨d, rfl, (Option.some.inj h).symm⟩
@[simp] def enumO : D → Option (List D)
  | .list ds => if imms ds = true then some (enumD ds) else none
  | .tuple ds => if imms ds = true then some (enumD ds) else none
  | _ => none
@[simp] def cEnum (f : EM D) : EM (List D) := EM.bind f fun d δ => match enumO d with
  | some ds => some (.ok ds δ)
  | none => none
theorem newPair {K : PySem.W.Frag} {H : Hp} {T : Addr} {i : Nat} {x : V} {d : D} (hT : H T = none) (r : Rep K H x d []) : NewV K H (.ref T) (.tuple [.int (i : Nat), d]) (upd H T (.tup [.int (i : Nat), x])) [] := by
  refine ⟨Keep.new hT, ?_, fun _ m => (nomatch m), List.nodup_nil⟩
  refine .tup (F := []) (.inl (.inl upd_same)) ?_
  exact .cons (F := []) (.int _) (.cons (F := []) (r.keep (Keep.new hT (B := fun _ => False)) fun _ m => (nomatch m)) .nil)
theorem it_enumL {K : PySem.W.Frag} {a : Addr} {vs : List V} {ds : List D} {G : Hp → Prop} (h : ∀ H, G H → SqL K H a vs ∧ Reps K H vs ds []) : ItOk K (Ite K a) (enumD ds) G := by
  refine ⟨fun i H hi g => ?_, fun H g => ?_, fun i H x H' hi g y => ?_⟩
  · rw [enumD_len] at hi
    have hl := (h H g).2.length
    exact ⟨vs, vs[i], (h H g).1, by simp [show i < vs.length by omega]⟩
  · exact ⟨vs, (h H g).1, by rw [enumD_len, (h H g).2.length]; exact Nat.le_refl _⟩
  · obtain ⟨T, x, rfl, hT, rfl, hx⟩ := y
    obtain ⟨d, F, h1, h2, h3⟩ := (h _ g).2.getV (hx vs (h _ g).1)
    have e : F = [] := List.eq_nil_iff_forall_not_mem.mpr fun a m => (nomatch h3 a m)
    subst e
    exact ⟨_, enumD_get h1, newPair hT h2⟩
theorem it_enumT {K : PySem.W.Frag} {a : Addr} {vs : List V} {ds : List D} {G : Hp → Prop} (h : ∀ H, G H → SqT K H a vs ∧ Reps K H vs ds []) : ItOk K (Itet K a) (enumD ds) G := by
  refine ⟨fun i H hi g => ?_, fun H g => ?_, fun i H x H' hi g y => ?_⟩
  · rw [enumD_len] at hi
    have hl := (h H g).2.length
    exact ⟨vs, vs[i], (h H g).1, by simp [show i < vs.length by omega]⟩
  · exact ⟨vs, (h H g).1, by rw [enumD_len, (h H g).2.length]; exact Nat.le_refl _⟩
  · obtain ⟨T, x, rfl, hT, rfl, hx⟩ := y
    obtain ⟨d, F, h1, h2, h3⟩ := (h _ g).2.getV (hx vs (h _ g).1)
    have e : F = [] := List.eq_nil_iff_forall_not_mem.mpr fun a m => (nomatch h3 a m)
    subst e
    exact ⟨_, enumD_get h1, newPair hT h2⟩
variable {S : Sig}
theorem di_enum {e : Expr} {κ : Kd} {M : List Nat} {f : EM D} {p pos tpos : Pos} {elts : List Expr} {kk : Nat} (n : BtS S "enumerate") (h : DE S e κ M f) (hp : Plain [e]) : DI S (.Tuple elts kk tpos) (.Call (.Name "enumerate" p) [e] [] pos) (within κ) M (cEnum f) := fun σ H δ Fs R r E s hf k => by
  have gL : ∀ X, Fits S X → PI X (.Tuple elts kk tpos) (.Call (.Name "enumerate" p) [e] [] pos) (iEnum S.K (tCons (tB S e) tNil)) := fun X hX => by
    rw [← hX.K]; exact pi_enum (n.g hX) (n.m hX) (pa_cons (pe_tB hX) pa_nil (hp.1 _)) (hp.1 _)
  have gT : ∀ X, Fits S X → PI X (.Tuple elts kk tpos) (.Call (.Name "enumerate" p) [e] [] pos) (iEnumT S.K (tCons (tB S e) tNil)) := fun X hX => by
    rw [← hX.K]; exact pi_enumT (n.g hX) (n.m hX) (pa_cons (pe_tB hX) pa_nil (hp.1 _)) (hp.1 _)
  rcases bind_some hf with ⟨d, δ1, h1, h2⟩ | ⟨x, h1, rfl⟩
  · cases e2 : enumO d with
    | none => rw [e2] at h2; cases h2
    | some ds =>
      rw [e2] at h2
      cases h2
      have seq : ∀ {H1 : Hp} {Fs1 : FT} {F : List Addr} {v : V}, Post S.K M H δ Fs σ H1 δ1 Fs1 F → Opn S.K H1 σ δ1 Fs1 F κ v d → ∃ G, Rep S.K H1 v d G ∧ ∀ a ∈ G, a ∈ F ∨ ∃ l ∈ within κ, a ∈ Fs1 l := fun {H1 Fs1 F v} p o => by
        by_cases hκ : κ = .own
        · subst hκ; exact ⟨F, o, fun a m => .inl m⟩
        · obtain ⟨_, G, r, hw⟩ := o.within p.env hκ
          exact ⟨G, r, fun a m => .inr (hw a m)⟩
      unfold enumO at e2
      split at e2
      · split at e2
        · rename_i hi
          cases e2
          refine ⟨_, gL, h σ H δ Fs _ _ E s h1 fun v H1 Fs1 F p o => ?_⟩
          obtain ⟨G, rp, hw⟩ := seq p o
          obtain ⟨a, vs, G', rfl, hp, rs, rfl⟩ := rp.iLst
          refine ⟨a, vs, rfl, sqL_of hp, k _ H1 Fs1 F (fun H => H a = some (.lst vs) ∧ Reps S.K H vs _ []) p (it_enumL fun H g => ⟨sqL_of g.1, g.2⟩) ⟨hp, rs.imm' hi⟩ fun H2 H3 B g kp hB => ⟨kp a _ g.1 (.inl fun b => ?_), g.2.keep kp fun _ m => (nomatch m)⟩⟩
          rcases hw a List.mem_cons_self with m | ⟨l, hl, m⟩
          · exact (hB a b).1 m
          · exact (hB a b).2 l hl m
        · cases e2
      · split at e2
        · rename_i hi
          cases e2
          refine ⟨_, gT, h σ H δ Fs _ _ E s h1 fun v H1 Fs1 F p o => ?_⟩
          obtain ⟨G, rp, hw⟩ := seq p o
          obtain ⟨a, vs, rfl, hp, rs⟩ := rp.iTup
          exact ⟨a, vs, rfl, hp, k _ H1 Fs1 F (fun H => SqT S.K H a vs ∧ Reps S.K H vs _ []) p (it_enumT fun H g => g) ⟨hp, rs.imm' hi⟩ fun H2 H3 B g kp hB => ⟨kp.sqT g.1, g.2.keep kp fun _ m => (nomatch m)⟩⟩
        · cases e2
      · cases e2
  · exact ⟨_, gL, h σ H δ Fs _ _ E s h1 k⟩
theorem w_enum {δ : DEnv} {f : EM D} {Q : List D → DEnv → Prop} (h : wp (f δ) fun d δ1 => ∃ ds, enumO d = some ds ∧ Q ds δ1) : wp (cEnum f δ) Q := by
  obtain ⟨d, δ1, e, ds, e2, q⟩ := h
  exact w_eq (r_bind e (by rw [e2])) q
end DL
set_option maxHeartbeats 4000000
/-! DL18: dicts whose keys are numbers and texts, their values immutable; split. -/
namespace DL
open PySem PySem.Spec PyProof.Rows L2
def keyOf : D → Option Key
  | .int i => some (.inl i)
  | .str s => some (.inr s)
  | _ => none
theorem keyOf_keyD : ∀ k : Key, keyOf (keyD k) = some k
  | .inl _ => rfl
  | .inr _ => rfl
theorem keyOf_tk (k : List Key) : keyOf (tkeyD k) = none := rfl
theorem keyOf_some {d : D} {k : Key} (h : keyOf d = some k) : d = keyD k := by
  cases d <;> first | (cases h; rfl) | cases h
def hasK (k : Key) (kv : D × D) : Bool := decide (keyOf kv.1 = some k)
theorem hasK_key {k j : Key} {d : D} : hasK k (keyD j, d) = decide (j = k) := by
  unfold hasK
  dsimp only
  rw [keyOf_keyD]
  by_cases h : j = k <;> simp [h]
def findD (kvs : List (D × D)) (k : Key) : Option D := (kvs.find? (hasK k)).map (·.2)
def putD (kvs : List (D × D)) (k : Key) (d : D) : List (D × D) :=
  if kvs.any (hasK k) = true then kvs.map (fun kv => if hasK k kv = true then (kv.1, d) else kv) else kvs ++ [(keyD k, d)]
variable {K : PySem.W.Frag} {H : Hp}
theorem find_zip {k : Key} : ∀ {vs : List V} {ds : List D} {F : List Addr} {ks : List Key} {d : D}, Reps K H vs ds F → ks.length = vs.length → findD ((ks.map keyD).zip ds) k = some d → ∃ u G, valV (ks.zip vs) k = some u ∧ Rep K H u d G ∧ ∀ a ∈ G, a ∈ F
  | _, _, _, [], d, .nil, _, h => by cases h
  | _, _, _, j :: ks, d, .cons (v := v) (d := e) (F := F) (G := G) r rs, hl, h => by
    have hl : ks.length = _ := Nat.succ.inj hl
    show ∃ u G', valV ((j, v) :: ks.zip _) k = some u ∧ _
    have h : findD ((keyD j, e) :: (ks.map keyD).zip _) k = some d := h
    unfold findD at h
    rw [List.find?_cons, hasK_key] at h
    by_cases e1 : j = k
    · rw [decide_eq_true e1] at h
      cases h
      exact ⟨v, F, valV_pos e1, r, fun a m => List.mem_append_left _ m⟩
    · rw [decide_eq_false e1] at h
      obtain ⟨u, G', h1, h2, h3⟩ := find_zip rs hl h
      exact ⟨u, G', by rw [valV_neg e1]; exact h1, h2, fun a m => List.mem_append_right _ (h3 a m)⟩
theorem any_zipK {k : Key} : ∀ {ks : List Key} {vs : List V}, ks.length = vs.length → (ks.zip vs).any (fun kv => decide (kv.1 = k)) = ks.any fun j => decide (j = k)
  | [], _, _ => rfl
  | j :: ks, [], h => by cases h
  | j :: ks, v :: vs, h => by
    show (decide (j = k) || (ks.zip vs).any _) = _
    rw [any_zipK (Nat.succ.inj h)]; rfl
theorem any_zipD {k : Key} : ∀ {ks : List Key} {ds : List D}, ks.length = ds.length → ((ks.map keyD).zip ds).any (hasK k) = ks.any fun j => decide (j = k)
  | [], _, _ => rfl
  | j :: ks, [], h => by cases h
  | j :: ks, d :: ds, h => by
    show (hasK k (keyD j, d) || ((ks.map keyD).zip ds).any _) = _
    rw [any_zipD (Nat.succ.inj h), hasK_key]; rfl
theorem map_zip {k : Key} {v : V} {d : D} (hv : Rep K H v d []) : ∀ {vs : List V} {ds : List D} {F : List Addr} {ks : List Key}, Reps K H vs ds F → F = [] → ks.length = vs.length →
    ∃ (vs' : List V) (ds' : List D), (ks.zip vs).map (fun kv => if kv.1 = k then (kv.1, v) else kv) = ks.zip vs' ∧ ((ks.map keyD).zip ds).map (fun kv => if hasK k kv = true then (kv.1, d) else kv) = (ks.map keyD).zip ds' ∧ vs'.length = ks.length ∧ Reps K H vs' ds' []
  | _, _, _, [], .nil, _, _ => ⟨[], [], rfl, rfl, rfl, .nil⟩
  | _, _, _, j :: ks, .cons (v := u) (d := e) (F := F) (G := G) r rs, hF, hl => by
    have hl : ks.length = _ := Nat.succ.inj hl
    obtain ⟨rfl, rfl⟩ := List.append_eq_nil_iff.mp hF
    obtain ⟨vs', ds', h1, h2, h3, h4⟩ := map_zip (k := k) hv rs rfl hl
    by_cases e1 : j = k
    · refine ⟨v :: vs', d :: ds', ?_, ?_, by rw [List.length_cons, List.length_cons, h3], .cons (F := []) hv h4⟩
      · show (if j = k then (j, v) else (j, u)) :: _ = _
        rw [if_pos e1]; exact congrArg (List.cons _) h1
      · show (if hasK k (keyD j, e) = true then (keyD j, d) else (keyD j, e)) :: _ = _
        rw [hasK_key, if_pos (decide_eq_true e1)]; exact congrArg (List.cons _) h2
    · refine ⟨u :: vs', e :: ds', ?_, ?_, by rw [List.length_cons, List.length_cons, h3], .cons (F := []) r h4⟩
      · show (if j = k then (j, v) else (j, u)) :: _ = _
        rw [if_neg e1]; exact congrArg (List.cons _) h1
      · show (if hasK k (keyD j, e) = true then (keyD j, d) else (keyD j, e)) :: _ = _
        rw [hasK_key, decide_eq_false e1, if_neg (by decide)]; exact congrArg (List.cons _) h2
theorem put_zip {k : Key} {v : V} {d : D} {vs : List V} {ds : List D} {ks : List Key} (hv : Rep K H v d []) (rs : Reps K H vs ds []) (hl : ks.length = vs.length) :
    ∃ (ks' : List Key) (vs' : List V) (ds' : List D), putK (ks.zip vs) k v = ks'.zip vs' ∧ putD ((ks.map keyD).zip ds) k d = (ks'.map keyD).zip ds' ∧ ks'.length = vs'.length ∧ Reps K H vs' ds' [] := by
  have hd : ks.length = ds.length := by rw [hl, rs.length]
  unfold putK putD
  rw [any_zipK hl, any_zipD hd]
  by_cases a : (ks.any fun j => decide (j = k)) = true
  · rw [if_pos a, if_pos a]
    obtain ⟨vs', ds', h1, h2, h3, h4⟩ := map_zip (k := k) hv rs rfl hl
    exact ⟨ks, vs', ds', h1, h2, h3.symm, h4⟩
  · rw [if_neg a, if_neg a]
    refine ⟨ks ++ [k], vs ++ [v], ds ++ [d], ?_, ?_, by rw [List.length_append, List.length_append, hl]; rfl, ?_⟩
    · rw [List.zip_append hl]; rfl
    · rw [List.map_append, List.zip_append (by rw [List.length_map]; exact hd)]; rfl
    · have := rs.append (.cons (F := []) hv .nil)
      exact this
/-! the rules -/
section
variable {S : Sig} {a b e i : Expr} {pos p1 tpos : Pos} {x : Str} {j : Nat} {κs : List Kd} {M M1 M2 : List Nat} {f : EM (List D)} {g h : EM D}
theorem dictI {v : V} {kvs : List (D × D)} {F : List Addr} {k : Key} {d : D} (r : Rep K H v (.dict kvs) F) (hf : findD kvs k = some d) :
    ∃ (a : Addr) (ks : List Key) (vs : List V) (ds : List D) (G : List Addr), v = .ref a ∧ H a = some (.dK (ks.zip vs)) ∧ ks.length = vs.length ∧ Reps K H vs ds G ∧ kvs = (ks.map keyD).zip ds ∧ F = a :: G := by
  generalize hq : PyData.dict kvs = q at r
  cases r with
  | dK h1 h2 h3 => cases hq; exact ⟨_, _, _, _, _, rfl, h1, h2, h3, rfl, rfl⟩
  | dT h1 h2 h3 =>
    cases hq
    exfalso
    rename_i ks vs ds F
    have key : ∀ (ks : List (List Key)) (ds : List D), findD ((ks.map tkeyD).zip ds) k = none := fun ks => by
      induction ks with
      | nil => intro ds; rfl
      | cons t ks ih =>
        intro ds
        cases ds with
        | nil => rfl
        | cons d ds =>
          have := ih ds
          show findD ((tkeyD t, d) :: (ks.map tkeyD).zip ds) k = none
          unfold findD at this ⊢
          rw [List.find?_cons]
          have e : hasK k (tkeyD t, d) = false := by unfold hasK; dsimp only; rw [keyOf_tk]; rfl
          rw [e]
          exact this
    have hf : findD ((ks.map tkeyD).zip ds) k = some d := hf
    rw [key] at hf
    cases hf
  | _ => cases hq
/-- d[k] -/
@[simp] def gDGet : List D → Option D
  | [.dict kvs, e] => match keyOf e with
    | some k => match findD kvs k with
      | some d => if imm d = true then some d else none
      | none => none
    | none => none
  | _ => none
theorem key_V {v : V} {k : Key} {F : List Addr} (r : Rep K H v (keyD k) F) : v = kV k := by
  cases k with
  | inl i => exact r.iInt
  | inr s => exact r.iStr
theorem de_dget (hA : DA S [a, b] κs M f) (hs : NoSl b) : DE S (.Subscript a b pos) .own M (cV f gDGet) := by
  have g : ∀ X, Fits S X → PE X (.Subscript a b pos) (fun σ H Q => tBA S [a, b] σ H fun vs H1 => l2 (fun x y H2 Q => ∃ q v, x = .ref q ∧ DGet H2 q y (some v) ∧ Q v H2) vs H1 Q) := fun X hX =>
    pe_dget (by have := hX.u65; omega) (pe_tB hX) (pe_tB hX) hs
  refine de_v hA ⟨_, g⟩ fun ds dz h => ?_
  unfold gDGet at h
  split at h
  · rename_i kvs e
    cases q1 : keyOf e with
    | none => rw [q1] at h; cases h
    | some k =>
      rw [q1] at h
      dsimp only at h
      cases q2 : findD kvs k with
      | none => rw [q2] at h; cases h
      | some d =>
        rw [q2] at h
        dsimp only at h
        split at h
        · rename_i hi
          cases h
          refine ⟨_, g, fun H vs F Q r kk => ?_⟩
          obtain ⟨v, w, _, _, rfl, r1, r2⟩ := r.i2
          obtain ⟨q, ks, ws, ds, G, rfl, hq, hl, rs, rfl, _⟩ := dictI r1 q2
          rw [keyOf_some q1] at r2
          obtain ⟨u, G', h1, h2, h3⟩ := find_zip rs hl q2
          have ew := key_V r2
          subst ew
          refine ⟨q, u, rfl, ?_, kk _ H [] (.same (h2.imm' hi))⟩
          rw [← h1]
          exact DGet.k hq
        · cases h
  · cases h
/-- dict data of a slot -/
@[simp] def dictAt (δ : DEnv) (j : Nat) : Option (List (D × D)) := match δ[j]? with
  | some (some (.dict ds)) => some ds
  | _ => none
theorem dictAt_some {δ : DEnv} {j : Nat} {ds : List (D × D)} (h : dictAt δ j = some ds) : δ[j]? = some (some (.dict ds)) := by
  unfold dictAt at h
  split at h
  · rename_i e; cases h; exact e
  · cases h
@[simp] def plainD (kvs : List (D × D)) : Bool := kvs.all fun kv => (keyOf kv.1).isSome && imm kv.2
theorem dictP {v : V} {kvs : List (D × D)} {F : List Addr} (r : Rep K H v (.dict kvs) F) (hf : plainD kvs = true) :
    ∃ (a : Addr) (ks : List Key) (vs : List V) (ds : List D), v = .ref a ∧ H a = some (.dK (ks.zip vs)) ∧ ks.length = vs.length ∧ Reps K H vs ds [] ∧ kvs = (ks.map keyD).zip ds ∧ F = [a] := by
  generalize hq : PyData.dict kvs = q at r
  cases r with
  | dK h1 h2 h3 =>
    cases hq
    rename_i ks vs ds F
    have key : ∀ (ks : List Key) (ds : List D), ks.length = ds.length → plainD ((ks.map keyD).zip ds) = true → imms ds = true := fun ks => by
      induction ks with
      | nil => intro ds hl _; cases ds with
        | nil => rfl
        | cons d ds => cases hl
      | cons t ks ih =>
        intro ds hl hp
        cases ds with
        | nil => cases hl
        | cons d ds =>
          have hp : (((keyOf (keyD t)).isSome && imm d) && plainD ((ks.map keyD).zip ds)) = true := hp
          rw [Bool.and_eq_true, Bool.and_eq_true] at hp
          show (imm d && imms ds) = true
          rw [hp.1.2, ih ds (Nat.succ.inj hl) hp.2]; rfl
    have hi := key ks ds (by rw [h2, h3.length]) hf
    have e := h3.imm hi
    subst e
    exact ⟨_, _, _, _, rfl, h1, h2, h3, rfl, rfl⟩
  | dT h1 h2 h3 =>
    cases hq
    cases hf
  | _ => cases hq
theorem de_dict0 {pos : Pos} : DE S (.Dict [] [] pos) .own [] (cC (.dict [])) := fun σ H δ Fs Q r E s hf k => by
  cases hf
  refine ⟨_, fun X _ => pe_dnewK, fun p hp => ?_⟩
  have n : NewV S.K H (.ref p) (.dict []) (upd H p (.dK [])) [p] :=
    ⟨Keep.new hp, Rep.dK (ks := []) (vs := []) (ds := []) (F := []) upd_same rfl .nil, fun a m => by rw [List.mem_singleton.mp m]; exact hp, by simp⟩
  exact k _ _ Fs [p] ((Post.refl E s).newv n) n.rep
/-- d[k] = v, d a slot's dict -/
@[simp] def cSetK (j : Nat) (fe fi : EM D) : EM Fl := fun δ => match dictAt δ j with
  | some _ => EM.bind fe (fun d => EM.bind fi fun i δ => match dictAt δ j, keyOf i with
    | some kvs, some k => if imm d = true ∧ plainD kvs = true ∧ kvs.length ≤ 1000000 then some (.ok .nx (δ.set j (some (.dict (putD kvs k d))))) else none
    | _, _ => none) δ
  | none => none
theorem slot_dict {σ : L2.St} {δ : DEnv} {Fs : FT} {kvs : List (D × D)} (E : EnvR K H σ δ Fs) (e : δ[j]? = some (some (.dict kvs))) : ∃ a G, σ[j]? = some (some (.ref a)) ∧ Fs j = a :: G := by
  obtain ⟨v, h1, r⟩ := E.at j _ e
  generalize hq : PyData.dict kvs = q at r
  generalize hF : Fs j = F at r
  cases r with
  | dK h2 h3 h4 => exact ⟨_, _, h1, rfl⟩
  | dT h2 h3 h4 => exact ⟨_, _, h1, rfl⟩
  | _ => cases hq
theorem ds_setK (n : NmS S j x) (he : DE S e .own M1 g) (hi : DE S i .own M2 h) (hs : ∀ env, swapsWith e (some (.Subscript (.Name x p1) i tpos)) pos.line env = pure false) :
    DS S (.Assign [.Subscript (.Name x p1) i tpos] e pos) ((M1 ++ M2) ++ [j]) [] (cSetK j g h) := fun σ H δ Fs D r E s hf k => by
  refine ⟨_, fun X hX => ps_dput (by have := hX.u65; omega) (n.pe (pos := p1) hX) (pe_tB hX) (pe_tB hX) (hs _), ?_⟩
  show tB S e σ H fun v H1 => ∃ o, σ[j]? = some (some o) ∧ tB S i σ H1 fun y H3 => ∃ a H4, o = .ref a ∧ DPut H3 a y v H4 ∧ D.nx σ H4
  unfold cSetK at hf
  cases q0 : dictAt δ j with
  | none => rw [q0] at hf; cases hf
  | some ds0 =>
    rw [q0] at hf
    dsimp only at hf
    obtain ⟨a, G0, hv, _⟩ := slot_dict E (dictAt_some q0)
    rcases bind_some hf with ⟨d, δ1, h1, h2⟩ | ⟨x, h1, rfl⟩
    · refine he σ H δ Fs _ _ E s h1 fun v H1 Fs1 F p o => ⟨.ref a, hv, ?_⟩
      rcases bind_some h2 with ⟨iv, δ2, h3, h4⟩ | ⟨x, h3, rfl⟩
      · cases q : dictAt δ2 j with
        | none => rw [q] at h4; cases h4
        | some kvs =>
          rw [q] at h4
          cases q1 : keyOf iv with
          | none => rw [q1] at h4; cases h4
          | some kk =>
            rw [q1] at h4
            dsimp only at h4
            by_cases hc : DL.imm d = true ∧ plainD kvs = true ∧ kvs.length ≤ 1000000
            · rw [if_pos hc] at h4
              cases h4
              refine hi σ H1 δ1 Fs1 _ _ p.env p.sep0 h3 fun w H2 Fs2 F2 p2 o2 => ?_
              have o2 : Rep S.K H2 w iv F2 := o2
              rw [keyOf_some q1] at o2
              have ew := key_V o2
              subst ew
              have oF : F = [] := Rep.imm o hc.1
              subst oF
              have o' := Opn.carry (κ := .own) o p.sep p2 rfl rfl
              have pp := p.comp p2.dropR
              rw [List.append_nil] at pp
              obtain ⟨v', hv', rj⟩ := p2.env.at j _ (dictAt_some q)
              generalize hFj : Fs2 j = Fj at rj
              obtain ⟨a', ks, ws, ds, rfl, hq, hl, rs, rfl, rfl⟩ := dictP rj hc.2.1
              rw [hv] at hv'
              cases hv'
              have hj : j < δ2.length := (List.getElem?_eq_some_iff.mp (dictAt_some q)).1
              obtain ⟨ks', vs', ds', e1, e2, e3, e4⟩ := put_zip (k := kk) o' rs hl
              have hlen : (ks.zip ws).length < sizeLine := by
                have := hc.2.2
                rw [List.length_zip, List.length_map] at this
                rw [List.length_zip, sizeLine_eq]
                have := rs.length
                omega
              have k2 : Keep (fun x => x = a) H2 (upd H2 a (.dK (putK (ks.zip ws) kk v))) := .upd rfl fun u e => by rw [hq] at e; cases e; rfl
              refine ⟨a, _, rfl, DPut.k hq hlen, k σ _ _ (Post.mut (F := []) (G := []) (R := []) (G' := []) pp hj hFj hv rfl ?_ (fun x m => by simpa using m) (by simp)) .refl⟩
              rw [e1, e2]
              exact .dK upd_same e3 (e4.keep (by rw [e1] at k2; exact k2) fun _ m => (nomatch m))
            · rw [if_neg hc] at h4; cases h4
      · exact hi σ H1 δ1 Fs1 _ _ p.env p.sep0 h3 (XOk.post k p)
    · exact he σ H δ Fs _ _ E s h1 k
theorem w_setK {δ : DEnv} {fe fi : EM D} {ds0 : List (D × D)} {Q : Fl → DEnv → Prop} (h0 : δ[j]? = some (some (.dict ds0))) (hh : wp (fe δ) fun d δ1 => wp (fi δ1) fun x δ2 => ∃ k kvs, keyOf x = some k ∧ δ2[j]? = some (some (.dict kvs)) ∧ (DL.imm d = true ∧ plainD kvs = true ∧ kvs.length ≤ 1000000) ∧ Q .nx (δ2.set j (some (.dict (putD kvs k d))))) : wp (cSetK j fe fi δ) Q := by
  obtain ⟨d, δ1, e, x, δ2, e2, k, kvs, e3, e4, hc, q⟩ := hh
  refine w_eq (a := .nx) (δ := δ2.set j (some (.dict (putD kvs k d)))) ?_ q
  unfold cSetK
  rw [show dictAt δ j = some ds0 by unfold dictAt; rw [h0]]
  exact r_bind e (r_bind e2 (by rw [show dictAt δ2 j = some kvs by unfold dictAt; rw [e4], e3]; dsimp only; rw [if_pos hc]))
/-! split -/
@[simp] def gSplitK (y : Str) : List D → Option D
  | [.str z] => if 0 < y.length ∧ z.length ≤ 1000000 then some (.list ((Txt.split z y).map .str)) else none
  | _ => none
theorem strs_reps {K : PySem.W.Frag} {H : Hp} : ∀ ns : List Str, Reps K H (ns.map V.str) (ns.map PyData.str) []
  | [] => .nil
  | n :: r => by
    have := Reps.cons (Rep.str (K := K) (H := H) n) (strs_reps r)
    exact this
theorem de_splitK {apos p2 : Pos} {y : Str} {jj : Nat} (hA : DA S [a] κs M f) (hbase : ∀ env, attributeBase a "split" env (eval a env) = eval a env) (hline : (apos.endLine == pos.line) = true) :
    DE S (.Call (.Attribute a "split" apos) [.Constant (.str y) jj p2] [] pos) .own M (cV f (gSplitK y)) := by
  have g : ∀ X, Fits S X → PE X (.Call (.Attribute a "split" apos) [.Constant (.str y) jj p2] [] pos) (fun σ H Q => tBA S [a] σ H fun vs H1 => l1 (fun x H1 Q => (∃ a, x = V.str a) ∧ ∃ a b, x = V.str a ∧ [V.str y] = [V.str b] ∧ (b.length == 0) = false ∧ a.length + 2 ≤ sizeLine ∧ rNewStrs (Txt.split a b) H1 Q) vs H1 Q) := fun X hX =>
    pe_split (pe_tB hX) pe_str rfl (hbase _) hline
  refine de_v hA ⟨_, g⟩ fun ds dz h => ?_
  unfold gSplitK at h
  split at h
  · split at h
    · rename_i z hl
      cases h
      refine ⟨_, g, fun H vs F Q r k => ?_⟩
      obtain ⟨v, _, rfl, r1⟩ := r.i1
      have ev := r1.iStr
      subst ev
      refine ⟨⟨z, rfl⟩, z, y, rfl, rfl, ?_, ?_, fun p hp => ?_⟩
      · cases hy : (y.length == 0) with
        | false => rfl
        | true => have := beq_iff_eq.mp hy; omega
      · rw [sizeLine_eq]; omega
      · exact k _ _ [p] ⟨Keep.new hp, .lst upd_same (strs_reps _), fun a m => by rw [List.mem_singleton.mp m]; exact hp, by simp⟩
    · cases h
  · cases h
end
end DL
set_option maxHeartbeats 4000000
/-! DL19: sorted over lists of data. -/
namespace DL
open PySem PySem.Spec PyProof.Rows L2
abbrev srtVD (bs : List (V × D)) : List (V × D) := bs.mergeSort (PySem.W.dataLe false Prod.snd)
def rSortD (K : PySem.W.Frag) : List V → Hp → VK → Prop := fun vs H Q => ∃ (a : Addr) (bs : List (V × D)), vs = [V.ref a] ∧ SqL K H a (bs.map Prod.fst) ∧ DpAll K H (bs.map Prod.fst) (bs.map Prod.snd) ∧
  PySem.W.AllAlike (bs.map Prod.snd) ∧ PySem.W.Sortable (bs.map Prod.snd) ∧ (∀ b ∈ bs, b.2.depth ≤ 50) ∧ ∀ p, H p = none → Q (.ref p) (upd H p (.lst ((srtVD bs).map Prod.fst)))
theorem each_vals : ∀ {bs : List (V × D)} {us : List Value}, Vals (bs.map Prod.fst) us → PySem.W.EachIs (fun u (b : V × D) => RelV b.1 u) us bs
  | [], _, .nil => .nil
  | b :: bs, _, .cons h t => .cons h (each_vals t)
theorem each_back : ∀ {bs : List (V × D)} {us : List Value}, PySem.W.EachIs (fun u (b : V × D) => RelV b.1 u) us bs → Vals (bs.map Prod.fst) us
  | [], _, .nil => .nil
  | b :: bs, _, .cons h t => .cons h (each_back t)
theorem each_reads {X : Cx} {pins : List (Addr × Obj)} {σ : L2.St} {H : Hp} {s : Shared} (I : L2.Inv X pins σ H s) : ∀ {bs : List (V × D)} {us : List Value}, DpAll X.K H (bs.map Prod.fst) (bs.map Prod.snd) → Vals (bs.map Prod.fst) us → PySem.W.EachIs (fun u (b : V × D) => ∃ as, Reads s.heap u b.2 as) us bs
  | [], _, _, .nil => .nil
  | (v, d) :: bs, _, h, .cons r t => by
    have h : DpAll X.K H (v :: bs.map Prod.fst) (d :: bs.map Prod.snd) := h
    cases h with
    | cons h1 h2 => exact .cons (Dp.reads I d v _ h1 r) (each_reads I h2 t)
theorem cr_sortedD {X : Cx} (hu : X.A.units + 65 < cLine) : CallR X (.builtin "sorted") (rSortD X.K) := by
  intro pins s σ H vs us Q I r h
  obtain ⟨a, bs, rfl, hs, hd, hal, hk, hdep, q⟩ := h
  obtain ⟨its, rv, hl, hz⟩ := I.list hs
  rw [Vals.ref1 r]
  have hbl : bs.length ≤ sizeLine := by rw [List.length_map] at hz; exact hz
  refine PySem.W.sorted_data (enc := Prod.snd) (bs := bs) (R := fun u (b : V × D) => RelV b.1 u) hl.isList (each_vals rv) (each_reads I hd rv) hal hk hbl (fun b m => by have := hdep b m; omega) fun out hlen hout => ?_
  obtain ⟨ep, he'⟩ := PyProof.Rows.sortedAll_at s.heap its out.toArray
  have hlen2 : ((srtVD bs).map Prod.fst).length ≤ sizeLine := by
    rw [List.length_map, List.length_mergeSort]
    exact hbl
  refine ⟨.ref _, upd H (s.heap.objs.size + 1) (.lst ((srtVD bs).map Prod.fst)), I.laid (t' := s.toks) (fun _ _ => PyProof.Rows.sortedAll_old) (Nat.le_succ _) ⟨hlen2, out, ep, each_back hout, he'⟩, rfl, q _ (I.hok.fresh (Nat.le_succ _))⟩
/-! the data side -/
def alikeB (ds : List D) : Bool := ds.all fun d => ds.all fun e => PySem.W.alike d e
def sortB (ds : List D) : Bool := (ds.all fun d => match d with | .tuple (_ :: _) => true | _ => false) || ds.all fun d => match d with | .tuple _ => false | .none => false | _ => true
@[simp] def gSorted : List D → Option D
  | [.list ds] => if imms ds = true ∧ alikeB ds = true ∧ sortB ds = true ∧ (ds.all fun d => PyData.canLay0 d && decide (d.depth ≤ 50)) = true then some (.list (ds.mergeSort (PySem.W.dataLe false id))) else none
  | _ => none
theorem sortB_ok {ds : List D} (h : sortB ds = true) : PySem.W.Sortable ds := by
  unfold sortB at h
  rw [Bool.or_eq_true] at h
  rcases h with h | h
  · refine .inl fun d m => ?_
    have := List.all_eq_true.mp h d m
    match d, this with
    | .tuple (x :: r), _ => exact ⟨x, r, rfl⟩
  · refine .inr fun d m => ?_
    have := List.all_eq_true.mp h d m
    refine ⟨fun e => ?_, fun xs e => ?_⟩
    · subst e; cases this
    · subst e; cases this
theorem alikeB_ok {ds : List D} (h : alikeB ds = true) : PySem.W.AllAlike ds := fun d m e m2 => List.all_eq_true.mp (List.all_eq_true.mp h d m) e m2
theorem zip_fst {α β : Type} : ∀ {xs : List α} {ys : List β}, xs.length = ys.length → (xs.zip ys).map Prod.fst = xs
  | [], [], _ => rfl
  | x :: xs, y :: ys, h => by
    show x :: (xs.zip ys).map Prod.fst = _
    rw [zip_fst (Nat.succ.inj h)]
theorem zip_snd {α β : Type} : ∀ {xs : List α} {ys : List β}, xs.length = ys.length → (xs.zip ys).map Prod.snd = ys
  | [], [], _ => rfl
  | x :: xs, y :: ys, h => by
    show y :: (xs.zip ys).map Prod.snd = _
    rw [zip_snd (Nat.succ.inj h)]
theorem reps_mem {K : PySem.W.Frag} {H : Hp} : ∀ {vs : List V} {ds : List D} {F : List Addr}, Reps K H vs ds F → F = [] → ∀ b ∈ vs.zip ds, Rep K H b.1 b.2 []
  | _, _, _, .nil, _, b, m => by cases m
  | _, _, _, .cons (v := v) (d := d) r rs, hF, b, m => by
    obtain ⟨rfl, rfl⟩ := List.append_eq_nil_iff.mp hF
    have m : b ∈ (v, d) :: _ := m
    rcases List.mem_cons.mp m with e | m
    · subst e; exact r
    · exact reps_mem rs rfl b m
theorem reps_of {K : PySem.W.Frag} {H : Hp} : ∀ {bs : List (V × D)}, (∀ b ∈ bs, Rep K H b.1 b.2 []) → Reps K H (bs.map Prod.fst) (bs.map Prod.snd) []
  | [], _ => .nil
  | b :: bs, h => .cons (F := []) (h b List.mem_cons_self) (reps_of fun c m => h c (List.mem_cons_of_mem _ m))
theorem dps_of {K : PySem.W.Frag} {H : Hp} : ∀ {bs : List (V × D)}, (∀ b ∈ bs, Dp K H b.1 b.2) → DpAll K H (bs.map Prod.fst) (bs.map Prod.snd)
  | [], _ => .nil
  | b :: bs, h => .cons (h b List.mem_cons_self) (dps_of fun c m => h c (List.mem_cons_of_mem _ m))
section
variable {S : Sig} {a : Expr} {pos p : Pos} {κs : List Kd} {M : List Nat} {f : EM (List D)}
theorem de_sorted (n : BtS S "sorted") (hA : DA S [a] κs M f) (hp : Plain [a]) : DE S (.Call (.Name "sorted" p) [a] [] pos) .own M (cV f gSorted) := by
  have g : ∀ X, Fits S X → PE X (.Call (.Name "sorted" p) [a] [] pos) (fun σ H Q => tBA S [a] σ H fun vs H1 => rSortD S.K vs H1 Q) :=
    f_callB n (fun X h => by have e := cr_sortedD (X := X) h.u65; rw [h.K] at e; exact e) (by decide +kernel) hp
  refine de_v hA ⟨_, g⟩ fun ds dz h => ?_
  unfold gSorted at h
  split at h
  · rename_i xs
    split at h
    · rename_i hc
      cases h
      refine ⟨_, g, fun H vs F Q r k => ?_⟩
      obtain ⟨v, _, rfl, r1⟩ := r.i1
      obtain ⟨q, ws, G, rfl, hq, s⟩ := lst_read r1
      have s := s.imm' hc.1
      have hl := s.length
      have hm := reps_mem s rfl
      have hall := fun d (m : d ∈ xs) => List.all_eq_true.mp hc.2.2.2 d m
      have e1 := zip_fst hl
      have e2 := zip_snd hl
      have hmem : ∀ b ∈ ws.zip xs, b.2 ∈ xs := fun b m => by rw [← e2]; exact List.mem_map_of_mem m
      refine ⟨q, ws.zip xs, rfl, by rw [e1]; exact hq, dps_of fun b m => ?_, by rw [e2]; exact alikeB_ok hc.2.1, by rw [e2]; exact sortB_ok hc.2.2.1, fun b m => ?_, fun p' hp' => ?_⟩
      · have := hall b.2 (hmem b m)
        rw [Bool.and_eq_true] at this
        exact (hm b m).dp this.1
      · have := hall b.2 (hmem b m)
        rw [Bool.and_eq_true] at this
        exact of_decide_eq_true this.2
      · have e3 : (srtVD (ws.zip xs)).map Prod.snd = xs.mergeSort (PySem.W.dataLe false id) := by
          have e4 := List.map_mergeSort (r := PySem.W.dataLe false Prod.snd) (s := PySem.W.dataLe false id) (f := Prod.snd) (l := ws.zip xs) (fun _ _ _ _ => rfl)
          rw [e2] at e4
          exact e4
        have rs : Reps S.K H ((srtVD (ws.zip xs)).map Prod.fst) ((srtVD (ws.zip xs)).map Prod.snd) [] := reps_of fun b m => hm b (List.mem_mergeSort.mp m)
        rw [e3] at rs
        exact k _ _ [p'] ⟨Keep.new hp', .lst upd_same (rs.keep (Keep.new hp' (B := fun _ => False)) fun _ m => (nomatch m)), fun a m => by rw [List.mem_singleton.mp m]; exact hp', by simp⟩
    · cases h
  · cases h
end
end DL
set_option maxHeartbeats 4000000
/-! DL20: a name for an inner list: core = found[i]; what follows changes core, never found. -/
namespace DL
open PySem PySem.Spec PyProof.Rows L2
/-- the item at k: its footprint, and what may stand in its place -/
theorem Reps.pick {K : PySem.W.Frag} {H : Hp} : ∀ {vs : List V} {ds : List D} {F : List Addr} {k : Nat} {d : D}, Reps K H vs ds F → ds[k]? = some d →
    ∃ v F1 F2 F3, vs[k]? = some v ∧ Rep K H v d F2 ∧ F = F1 ++ (F2 ++ F3) ∧
      ∀ (H' : Hp) (d' : D) (F' : List Addr) (B : Addr → Prop), Rep K H' v d' F' → Keep B H H' → (∀ a ∈ F1 ++ F3, ¬ B a) → Reps K H' vs (ds.set k d') (F1 ++ (F' ++ F3))
  | _, _, _, 0, _, .cons (v := v) (d := d) (F := F) (G := G) r t, e => by
    have e : some d = some _ := e
    cases e
    refine ⟨v, [], F, G, rfl, r, rfl, fun H' d' F' B r' kp hn => ?_⟩
    have := Reps.cons r' (t.keep kp fun a m => hn a m)
    exact this
  | _, _, _, k + 1, _, .cons (v := v) (vs := vs) (d := d) (ds := ds) (F := F) (G := G) r t, e => by
    have e : ds[k]? = some _ := e
    obtain ⟨w, F1, F2, F3, h1, h2, h3, h4⟩ := Reps.pick t e
    subst h3
    refine ⟨w, F ++ F1, F2, F3, h1, h2, by rw [List.append_assoc], fun H' d' F' B r' kp hn => ?_⟩
    have := Reps.cons (r.keep kp fun a m => hn a (by simp [m])) (h4 H' d' F' B r' kp fun a m => hn a (by
      rcases List.mem_append.mp m with m | m <;> simp [m]))
    rw [List.append_assoc]
    exact this
/-- core = found[i] and the statements behind it -/
@[simp] def cAlias (c j : Nat) (fi : EM D) (body : EM Fl) : EM Fl := fun δ => match lstAt δ j with
  | some _ => EM.bind fi (fun i δ1 => match lstAt δ1 j, i with
    | some ds, .int n => match ixN ds.length n with
      | some k => match ds[k]? with
        | some d => if c < δ1.length then match body ((δ1.set j none).set c (some d)) with
          | some (.ok .nx δ3) => match (δ3[c]?).join with
            | some d3 => some (.ok .nx ((δ3.set c none).set j (some (.list (ds.set k d3)))))
            | none => none
          | _ => none
          else none
        | none => none
      | none => none
    | _, _ => none) δ
  | none => none
def aliasF (c j : Nat) (F2 : List Addr) (Fs : FT) : FT := fun t => if t = c then F2 else if t = j then [] else Fs t
theorem aliasF_c {c j : Nat} {F2 : List Addr} {Fs : FT} : aliasF c j F2 Fs c = F2 := if_pos rfl
theorem aliasF_j {c j : Nat} {F2 : List Addr} {Fs : FT} (h : c ≠ j) : aliasF c j F2 Fs j = [] := by unfold aliasF; rw [if_neg (Ne.symm h), if_pos rfl]
theorem aliasF_o {c j t : Nat} {F2 : List Addr} {Fs : FT} (h1 : t ≠ c) (h2 : t ≠ j) : aliasF c j F2 Fs t = Fs t := by unfold aliasF; rw [if_neg h1, if_neg h2]
section
variable {S : Sig} {x y : Str} {c j : Nat} {i : Expr} {p1 p2 p' pos : Pos} {Mi Mb Ab : List Nat} {f : EM D} {g : EM Fl} {body : List Stmt}
theorem ds_alias (nj : NmS S j x) (tc : NmT S c y) (hi : DE S i .own Mi f) (hix : PlainIx i) (hs : ∀ env, swapsWith (.Subscript (.Name x p1) i p2) (some (.Name y p')) pos.line env = pure false)
    (hb : DSs S body Mb Ab g) (hjM : j ∉ Mb) (hjA : j ∉ Ab) (hcA : c ∉ Ab) (hcj : c ≠ j) : DSs S (.Assign [.Name y p'] (.Subscript (.Name x p1) i p2) pos :: body) (Mi ++ (j :: c :: Mb)) (c :: Ab) (cAlias c j f g) := fun σ H δ Fs D r E s hf kk => by
  refine ⟨_, fun X hX => pss_cons (ps_set (by rw [hX.N]; exact tc.nd) (by rw [hX.N]; exact tc.hN) (by rw [hX.sc]; exact tc.loc) (pe_ix (r := rIxL S.K) (by rw [← hX.K]; exact L2.ix_list) (nj.pe (pos := p1) hX) (pe_tB hX) hix) (hs _) (by rw [hX.sc]; exact tc.fn.imp (hX.fn y) id)) (pss_tB hX), ?_⟩
  show ∃ o, σ[j]? = some (some o) ∧ tB S i σ H fun iv H2 => rIxL S.K o iv H2 fun z H3 => tBSs S body D (σ.set c (some z)) H3
  unfold cAlias at hf
  cases q0 : lstAt δ j with
  | none => rw [q0] at hf; cases hf
  | some ds0 =>
    rw [q0] at hf
    dsimp only at hf
    obtain ⟨a, vs0, G0, hv, hH, _, _⟩ := slot_list E (lstAt_some q0)
    rcases bind_some hf with ⟨iv, δ1, h1, h2⟩ | ⟨x, h1, rfl⟩
    · refine ⟨.ref a, hv, hi σ H δ Fs _ _ E s h1 fun w H1 Fs1 F p o => ?_⟩
      cases q : lstAt δ1 j with
      | none => rw [q] at h2; cases h2
      | some ds =>
        rw [q] at h2
        cases iv with
        | int n =>
          dsimp only at h2
          cases q2 : ixN ds.length n with
          | none => rw [q2] at h2; cases h2
          | some k =>
            rw [q2] at h2
            dsimp only at h2
            cases q3 : ds[k]? with
            | none => rw [q3] at h2; cases h2
            | some d =>
              rw [q3] at h2
              dsimp only at h2
              have ew := Rep.iInt o
              subst ew
              have p := p.dropR
              obtain ⟨a', vs, Gj, hv', hH1, rs, hFj⟩ := slot_list p.env (lstAt_some q)
              rw [hv] at hv'
              cases hv'
              obtain ⟨v, F1, F2, F3, hvk, rv, hG, hput⟩ := rs.pick q3
              have hat : atI vs n = some v := by unfold atI; rw [rs.length, q2]; exact hvk
              refine ⟨a, vs, n, v, rfl, rfl, sqL_of hH1, hat, ?_⟩
              by_cases hc : c < δ1.length
              · rw [if_pos hc] at h2
                have hj : j < δ1.length := (List.getElem?_eq_some_iff.mp (lstAt_some q)).1
                have ndj := p.sep.nds j
                rw [hFj, hG] at ndj
                have inj : ∀ z, z ∈ a :: (F1 ++ (F2 ++ F3)) → z ∈ Fs1 j := fun z m => by rw [hFj, hG]; exact m
                cases q4 : g ((δ1.set j none).set c (some d)) with
                | none => rw [q4] at h2; cases h2
                | some rb =>
                  rw [q4] at h2
                  match rb, q4, h2 with
                  | .ok .nx δ3, q4, h2 =>
                    dsimp only at h2
                    cases q5 : (δ3[c]?).join with
                    | none => rw [q5] at h2; cases h2
                    | some d3 =>
                      rw [q5] at h2
                      cases h2
                      have len1 := p.env.len
                      have E2 : EnvR S.K H1 (σ.set c (some v)) ((δ1.set j none).set c (some d)) (aliasF c j F2 Fs1) := by
                        refine ⟨by simp [len1], fun t e he => ?_, fun t hno => ?_⟩
                        · by_cases tc' : t = c
                          · subst tc'
                            rw [List.getElem?_set_self (by simpa using hc)] at he
                            cases he
                            exact ⟨v, by rw [List.getElem?_set_self (by omega)], by rw [aliasF_c]; exact rv⟩
                          · rw [List.getElem?_set_ne (Ne.symm tc')] at he
                            by_cases tj : t = j
                            · subst tj
                              rw [List.getElem?_set_self hj] at he
                              cases he
                            · rw [List.getElem?_set_ne (Ne.symm tj)] at he
                              obtain ⟨u, hu, ru⟩ := p.env.at t e he
                              exact ⟨u, by rw [List.getElem?_set_ne (Ne.symm tc')]; exact hu, by rw [aliasF_o tc' tj]; exact ru⟩
                        · by_cases tc' : t = c
                          · subst tc'
                            exact absurd (List.getElem?_set_self (by simpa using hc)) (hno d)
                          · by_cases tj : t = j
                            · subst tj; exact aliasF_j hcj
                            · rw [aliasF_o tc' tj]
                              exact p.env.no t fun e he => hno e (by rw [List.getElem?_set_ne (Ne.symm tc'), List.getElem?_set_ne (Ne.symm tj)]; exact he)
                      have toOld : ∀ t z, z ∈ aliasF c j F2 Fs1 t → (t = c ∧ z ∈ F2) ∨ (t ≠ c ∧ t ≠ j ∧ z ∈ Fs1 t) := fun t z m => by
                        by_cases tc' : t = c
                        · subst tc'; rw [aliasF_c] at m; exact .inl ⟨rfl, m⟩
                        · by_cases tj : t = j
                          · subst tj; rw [aliasF_j hcj] at m; cases m
                          · rw [aliasF_o tc' tj] at m; exact .inr ⟨tc', tj, m⟩
                      have f2j : ∀ z, z ∈ F2 → z ∈ Fs1 j := fun z m => inj z (by simp [m])
                      have S2 : Sep (aliasF c j F2 Fs1) [] := by
                        refine ⟨List.nodup_nil, fun t => ?_, fun t u n z m m' => ?_, fun t z m => (nomatch m)⟩
                        · by_cases tc' : t = c
                          · subst tc'; rw [aliasF_c]
                            exact (List.nodup_append.mp (List.nodup_append.mp (List.nodup_cons.mp ndj).2).2.1).1
                          · by_cases tj : t = j
                            · subst tj; rw [aliasF_j hcj]; exact List.nodup_nil
                            · rw [aliasF_o tc' tj]; exact p.sep.nds t
                        · rcases toOld t z m with ⟨h1, h2⟩ | ⟨h1, h2, h3⟩ <;> rcases toOld u z m' with ⟨h4, h5⟩ | ⟨h4, h5, h6⟩
                          · exact n (h1.trans h4.symm)
                          · exact p.sep.dis j u (Ne.symm h5) z (f2j z h2) h6
                          · exact p.sep.dis t j h2 z h3 (f2j z h5)
                          · exact p.sep.dis t u n z h3 h6
                      refine hb _ H1 _ _ D (.ok .nx δ3) E2 S2 q4 fun σ3 H3 Fs3 qq sa => ?_
                      have hjF := (qq.same j hjM).1
                      rw [aliasF_j hcj] at hjF
                      obtain ⟨v3, hv3, r3⟩ := qq.env.at c d3 (by
                        cases e : δ3[c]? with
                        | none => rw [e] at q5; cases q5
                        | some o3 => rw [e] at q5; have q5 : o3 = some d3 := q5; rw [q5])
                      have es : σ3[c]? = some (some v) := by
                        rw [sa c hcA]
                        exact List.getElem?_set_self (by omega)
                      rw [es] at hv3
                      cases hv3
                      have esj : σ3[j]? = some (some (.ref a)) := by
                        rw [sa j hjA, List.getElem?_set_ne hcj]
                        exact hv
                      have g2 : ∀ t z, z ∈ aliasF c j F2 Fs1 t → z ∉ a :: (F1 ++ F3) := fun t z m m' => by
                        have zj : z ∈ Fs1 j := inj z (by
                          rcases List.mem_cons.mp m' with e | m'
                          · exact List.mem_cons.mpr (.inl e)
                          · rcases List.mem_append.mp m' with m' | m' <;> simp [m'])
                        rcases toOld t z m with ⟨h1, h2⟩ | ⟨h1, h2, h3⟩
                        · rw [List.nodup_cons] at ndj
                          rcases List.mem_cons.mp m' with e | m'
                          · subst e; exact ndj.1 (by simp [h2])
                          · have nd := List.nodup_append.mp ndj.2
                            rcases List.mem_append.mp m' with m' | m'
                            · exact nd.2.2 z m' z (by simp [h2]) rfl
                            · exact (List.nodup_append.mp nd.2.1).2.2 z h2 z m' rfl
                        · exact p.sep.dis t j h2 z h3 zj
                      have gB : ∀ z ∈ a :: (F1 ++ F3), ¬ InM Mb (aliasF c j F2 Fs1) z := fun z m ⟨t, _, m'⟩ => g2 t z m' m
                      have alive : ∀ z ∈ a :: (F1 ++ F3), H1 z ≠ none := fun z m' e => by
                        have zj : z ∈ Fs1 j := inj z (by
                          rcases List.mem_cons.mp m' with e | m'
                          · exact List.mem_cons.mpr (.inl e)
                          · rcases List.mem_append.mp m' with m' | m' <;> simp [m'])
                        obtain ⟨u, hu, _⟩ := p.env.trk zj
                        rw [e] at hu; cases hu
                      have g3 : ∀ t z, z ∈ Fs3 t → z ∉ a :: (F1 ++ F3) := fun t z m m' => by
                        by_cases tm : t ∈ Mb
                        · rcases qq.sub t tm z m with b | b
                          · exact gB z m' b
                          · exact alive z m' b
                        · rw [(qq.same t tm).1] at m
                          exact g2 t z m m'
                      have hH3 : H3 a = some (.lst vs) := qq.keep a _ hH1 (.inl (gB a List.mem_cons_self))
                      have newR : Rep S.K H3 (.ref a) (.list (ds.set k d3)) (a :: (F1 ++ (Fs3 c ++ F3))) :=
                        .lst hH3 (hput H3 d3 (Fs3 c) _ r3 qq.keep fun z m => gB z (List.mem_cons_of_mem _ m))
                      have len3 := qq.env.len
                      have hj3 : j < δ3.length := by rw [← len3]; exact (List.getElem?_eq_some_iff.mp esj).1
                      have hc3 : c < δ3.length := by rw [← len3]; exact (List.getElem?_eq_some_iff.mp es).1
                      have toM : ∀ z, InM Mb (aliasF c j F2 Fs1) z → InM (j :: c :: Mb) Fs1 z := fun z ⟨t, tm, m⟩ => by
                        rcases toOld t z m with ⟨h1, h2⟩ | ⟨h1, h2, h3⟩
                        · exact ⟨j, List.mem_cons_self, f2j z h2⟩
                        · exact ⟨t, List.mem_cons_of_mem _ (List.mem_cons_of_mem _ tm), h3⟩
                      have sub3 : ∀ t, t = c ∨ t ∈ Mb → ∀ z ∈ Fs3 t, InM (j :: c :: Mb) Fs1 z ∨ H1 z = none := fun t ht z m => by
                        by_cases tm : t ∈ Mb
                        · exact (qq.sub t tm z m).imp (toM z) id
                        · have tc' : t = c := ht.resolve_right tm
                          rw [(qq.same t tm).1] at m
                          subst tc'
                          rw [aliasF_c] at m
                          exact .inl ⟨j, List.mem_cons_self, f2j z m⟩
                      have q' : Post S.K (j :: c :: Mb) H1 δ1 Fs1 σ3 H3 ((δ3.set c none).set j (some (.list (ds.set k d3)))) (fun t => if t = j then a :: (F1 ++ (Fs3 c ++ F3)) else if t = c then [] else Fs3 t) [] := by
                        refine ⟨⟨by simp [len3], fun t e he => ?_, fun t hno => ?_⟩, ⟨List.nodup_nil, fun t => ?_, fun t u n z m m' => ?_, fun t z m => (nomatch m)⟩, fun z m => (nomatch m), fun t tm z m => ?_, fun z m => (nomatch m), ?_, fun t ht => ?_⟩
                        · by_cases tj : t = j
                          · subst tj
                            rw [List.getElem?_set_self (by simpa using hj3)] at he
                            cases he
                            exact ⟨_, esj, by rw [if_pos rfl]; exact newR⟩
                          · rw [List.getElem?_set_ne (Ne.symm tj)] at he
                            by_cases tc' : t = c
                            · subst tc'
                              rw [List.getElem?_set_self hc3] at he
                              cases he
                            · rw [List.getElem?_set_ne (Ne.symm tc')] at he
                              obtain ⟨u, hu, ru⟩ := qq.env.at t e he
                              exact ⟨u, hu, by rw [if_neg tj, if_neg tc']; exact ru⟩
                        · by_cases tj : t = j
                          · subst tj
                            exact absurd (List.getElem?_set_self (by simpa using hj3)) (hno _)
                          · by_cases tc' : t = c
                            · rw [if_neg tj, if_pos tc']
                            · rw [if_neg tj, if_neg tc']
                              exact qq.env.no t fun e he => hno e (by rw [List.getElem?_set_ne (Ne.symm tj), List.getElem?_set_ne (Ne.symm tc')]; exact he)
                        · by_cases tj : t = j
                          · rw [if_pos tj]
                            have n0 := List.nodup_cons.mp ndj
                            have n1 := List.nodup_append.mp n0.2
                            have n2 := List.nodup_append.mp n1.2.1
                            have cc := qq.sep.nds c
                            have gc := g3 c
                            refine List.nodup_cons.mpr ⟨fun m => ?_, List.nodup_append.mpr ⟨n1.1, List.nodup_append.mpr ⟨cc, n2.2.1, fun z m w m' e => ?_⟩, fun z m w m' e => ?_⟩⟩
                            · rcases List.mem_append.mp m with m | m
                              · exact n0.1 (by simp [m])
                              · rcases List.mem_append.mp m with m | m
                                · exact gc _ m List.mem_cons_self
                                · exact n0.1 (by simp [m])
                            · subst e
                              exact gc z m (by simp [m'])
                            · subst e
                              rcases List.mem_append.mp m' with m' | m'
                              · exact gc z m' (by simp [m])
                              · exact n1.2.2 z m z (by simp [m']) rfl
                          · by_cases tc' : t = c
                            · rw [if_neg tj, if_pos tc']; exact List.nodup_nil
                            · rw [if_neg tj, if_neg tc']; exact qq.sep.nds t
                        · have key : ∀ t, t ≠ j → t ≠ c → ∀ z ∈ Fs3 t, z ∉ a :: (F1 ++ (Fs3 c ++ F3)) := fun t tj tc' z m m' => by
                            rcases List.mem_cons.mp m' with e | m'
                            · exact g3 t z m (by rw [e]; exact List.mem_cons_self)
                            · rcases List.mem_append.mp m' with m' | m'
                              · exact g3 t z m (by simp [m'])
                              · rcases List.mem_append.mp m' with m' | m'
                                · exact qq.sep.dis t c tc' z m m'
                                · exact g3 t z m (by simp [m'])
                          by_cases tj : t = j
                          · rw [if_pos tj] at m
                            have uj : u ≠ j := fun e => n (tj.trans e.symm)
                            rw [if_neg uj] at m'
                            by_cases uc : u = c
                            · rw [if_pos uc] at m'; cases m'
                            · rw [if_neg uc] at m'
                              exact key u uj uc z m' m
                          · rw [if_neg tj] at m
                            by_cases tc' : t = c
                            · rw [if_pos tc'] at m; cases m
                            · rw [if_neg tc'] at m
                              by_cases uj : u = j
                              · rw [if_pos uj] at m'
                                exact key t tj tc' z m m'
                              · rw [if_neg uj] at m'
                                by_cases uc : u = c
                                · rw [if_pos uc] at m'; cases m'
                                · rw [if_neg uc] at m'
                                  exact qq.sep.dis t u n z m m'
                        · by_cases tj : t = j
                          · rw [if_pos tj] at m
                            have inJ : ∀ w, w ∈ a :: (F1 ++ (F2 ++ F3)) → InM (j :: c :: Mb) Fs1 w ∨ H1 w = none := fun w mw => .inl ⟨j, List.mem_cons_self, inj w mw⟩
                            rcases List.mem_cons.mp m with e | m
                            · exact inJ z (by rw [e]; exact List.mem_cons_self)
                            · rcases List.mem_append.mp m with m | m
                              · exact inJ z (by simp [m])
                              · rcases List.mem_append.mp m with m | m
                                · exact sub3 c (.inl rfl) z m
                                · exact inJ z (by simp [m])
                          · rw [if_neg tj] at m
                            by_cases tc' : t = c
                            · rw [if_pos tc'] at m; cases m
                            · rw [if_neg tc'] at m
                              have tm2 : t ∈ Mb := by
                                rcases List.mem_cons.mp tm with e | tm
                                · exact absurd e tj
                                · rcases List.mem_cons.mp tm with e | tm
                                  · exact absurd e tc'
                                  · exact tm
                              exact sub3 t (.inr tm2) z m
                        · exact qq.keep.imp fun z _ b => toM z b
                        · have tj : t ≠ j := fun e => ht (by rw [e]; exact List.mem_cons_self)
                          have tc' : t ≠ c := fun e => ht (by rw [e]; exact List.mem_cons_of_mem _ List.mem_cons_self)
                          have tm : t ∉ Mb := fun m => ht (List.mem_cons_of_mem _ (List.mem_cons_of_mem _ m))
                          obtain ⟨z1, z2⟩ := qq.same t tm
                          refine ⟨?_, ?_⟩
                          · show (if t = j then _ else if t = c then _ else Fs3 t) = _
                            rw [if_neg tj, if_neg tc', z1, aliasF_o tc' tj]
                          · rw [List.getElem?_set_ne (Ne.symm tj), List.getElem?_set_ne (Ne.symm tc'), z2, List.getElem?_set_ne (Ne.symm tc'), List.getElem?_set_ne (Ne.symm tj)]
                      refine kk σ3 H3 (fun t => if t = j then a :: (F1 ++ (Fs3 c ++ F3)) else if t = c then [] else Fs3 t) ?_ ?_
                      · exact p.comp q'
                      · intro t ht
                        rw [sa t fun m => ht (List.mem_cons_of_mem _ m), List.getElem?_set_ne fun e => ht (by rw [e]; exact List.mem_cons_self)]
                  | .ok .bk δ3, q4, h2 => cases h2
                  | .ok .ct δ3, q4, h2 => cases h2
                  | .ok (.rt _) δ3, q4, h2 => cases h2
                  | .ex _, q4, h2 => cases h2
              · rw [if_neg hc] at h2; cases h2
        | _ => cases h2
    · refine ⟨.ref a, hv, hi σ H δ Fs _ _ E s h1 ?_⟩
      exact kk
theorem w_alias {δ : DEnv} {fi : EM D} {bd : EM Fl} {Q : Fl → DEnv → Prop} {ds0 : List D} (h0 : δ[j]? = some (some (.list ds0)))
    (h : wp (fi δ) fun iv δ1 => ∃ n ds k d, iv = .int n ∧ δ1[j]? = some (some (.list ds)) ∧ ixN ds.length n = some k ∧ ds[k]? = some d ∧ Nat.blt c δ1.length = true ∧
      wp (bd ((δ1.set j none).set c (some d))) fun fl δ3 => fl = .nx ∧ ∃ d3, δ3[c]? = some (some d3) ∧ Q .nx ((δ3.set c none).set j (some (.list (ds.set k d3))))) : wp (cAlias c j fi bd δ) Q := by
  obtain ⟨iv, δ1, e, n, ds, k, d, rfl, e1, e2, e3, e4, fl, δ3, e5, rfl, d3, e6, q⟩ := h
  refine w_eq (a := .nx) (δ := (δ3.set c none).set j (some (.list (ds.set k d3)))) ?_ q
  unfold cAlias
  rw [lstAt_of h0]
  refine r_bind e ?_
  rw [lstAt_of e1]
  dsimp only
  rw [e2]
  dsimp only
  rw [e3]
  dsimp only
  rw [if_pos (show c < δ1.length from Nat.le_of_ble_eq_true e4), e5]
  dsimp only
  rw [e6]
  rfl
end
end DL
set_option maxHeartbeats 4000000
namespace DL
open PySem PySem.Spec PyProof.Rows L2
def g__law_draw : EM Fl := cSeq (cIfS (cBl (cV (cArgs [(.own, cV (cArgs [(.sl 0, cSl 0), (.own, cC (.int 2))]) gIx), (.own, cC (.int 0))]) gGt)) (cSeq (cAsg 2 (cV (cArgs [(.sl 0, cSl 0), (.own, cC (.int 2))]) gIx)) (cSeq (cSetI 0 (cV (cArgs [(.sl 2, cSl 2), (.sl 1, cSl 1)]) gFdiv) (cC (.int 2))) (cSeq (cRet (cV (cArgs [(.own, cV (cArgs [(.sl 2, cSl 2)]) gInt), (.sl 1, cSl 1)]) gMod)) (cNx)))) (cNx)) (cSeq (cAsg 3 (cC (.int 0))) (cSeq (cIfS (cBl (cV (cArgs [(.own, cV (cArgs [(.sl 0, cSl 0), (.own, cC (.int 1))]) gIx), (.own, cV (cArgs [(.bor [0], cV (cArgs [(.sl 0, cSl 0), (.own, cC (.int 0))]) gIxB)]) gLen)]) gLt)) (cSeq (cAsg 4 (cV (cArgs [(.bor [0], cV (cArgs [(.sl 0, cSl 0), (.own, cC (.int 0))]) gIxB), (.own, cV (cArgs [(.sl 0, cSl 0), (.own, cC (.int 1))]) gIx)]) gIx)) (cSeq (cAsg 3 (cV (cArgs [(.own, cV (cArgs [(.own, cC (.int 2)), (.own, cV (cArgs [(.sl 4, cSl 4)]) gAbs)]) gMul), (.own, cV (cArgs [(.own, cV (cArgs [(.sl 4, cSl 4), (.own, cC (.int 0))]) gLt)]) gInt)]) gAdd)) (cNx))) (cNx)) (cSeq (cAugSI 0 (fun i j => i + j) (cC (.int 1)) (cC (.int 1))) (cSeq (cIfS (cBl (cV (cArgs [(.sl 3, cSl 3), (.own, cV (cArgs [(.own, cC (.int 2)), (.own, cV (cArgs [(.own, cC (.int 10)), (.own, cC (.int 18))]) gPow)]) gMul)]) gGe)) (cSeq (cAsg 2 (cV (cArgs [(.own, cV (cArgs [(.own, cV (cArgs [(.sl 3, cSl 3), (.own, cC (.int 2))]) gFdiv)]) gInt), (.own, cV (cArgs [(.own, cC (.int 1)), (.own, cC (.int 6000))]) gShl)]) gMod)) (cSeq (cSetI 0 (cV (cArgs [(.sl 2, cSl 2), (.sl 1, cSl 1)]) gFdiv) (cC (.int 2))) (cSeq (cRet (cV (cArgs [(.own, cV (cArgs [(.sl 2, cSl 2)]) gInt), (.sl 1, cSl 1)]) gMod)) (cNx)))) (cNx)) (cSeq (cSetI 0 (cV (cArgs [(.own, cV (cArgs [(.own, cV (cArgs [(.own, cV (cArgs [(.own, cV (cArgs [(.own, cV (cArgs [(.own, cV (cArgs [(.sl 0, cSl 0), (.own, cC (.int 3))]) gIx), (.own, cC (.int 48271))]) gMul), (.own, cV (cArgs [(.own, cV (cArgs [(.own, cV (cArgs [(.sl 3, cSl 3)]) gInt), (.own, cC (.int 2147483629))]) gMod), (.own, cC (.int 16807))]) gMul)]) gAdd), (.own, cV (cArgs [(.own, cV (cArgs [(.sl 0, cSl 0), (.own, cC (.int 1))]) gIx), (.own, cC (.int 69621))]) gMul)]) gAdd), (.own, cC (.int 11))]) gAdd)]) gInt), (.own, cC (.int 2147483647))]) gMod) (cC (.int 3))) (cSeq (cRet (cV (cArgs [(.own, cV (cArgs [(.own, cV (cArgs [(.own, cV (cArgs [(.sl 0, cSl 0), (.own, cC (.int 3))]) gIx), (.own, cC (.int 16))]) gFdiv)]) gInt), (.sl 1, cSl 1)]) gMod)) (cNx)))))))
@[irreducible] def F__law_draw : EM D := fnD 5 [2, 3, 4] g__law_draw
local macro_rules | `(tactic| walk_at "go1") => `(tactic| with_reducible first
  | apply r_c | apply r_args_nil | apply r_nx | apply r_retN | apply r_sl | apply r_args | apply r_V | apply r_bl
  | apply r_tr | apply r_not | apply r_imm | apply r_and | apply r_or | apply r_ofB | apply r_ifE | apply r_andV
  | apply r_orV | apply r_call | apply r_seqM | apply r_cont | apply r_contR | apply r_if | apply r_ret | apply r_drop
  | apply r_asg | apply r_asgT | apply r_augI | apply r_app | apply r_setI | apply r_augSI | apply r_popAt | apply r_items
  | apply r_rng | apply r_for | apply r_comp | apply r_sl3 | apply r_intC | apply r_mv | apply v_mul | apply v_fdiv
  | apply v_mod | apply v_pow | apply v_shl | apply v_adds | apply v_addl | apply v_addt | apply v_tup | apply v_lst
  | apply v_len_str | apply v_len_list | apply v_len_tuple | apply v_ix | apply ix_list | apply ix_tuple | apply ix_strD)
local macro_rules | `(tactic| walk_at "side") => `(tactic| first | rfl | assumption | omega | decide | (simp only [decide_eq_true_eq, decide_eq_false_iff_not, List.length_map]; omega))
local macro_rules | `(tactic| walk_at "go") => `(tactic| repeat (first | walk_at "go1" | assumption | exact rfl | (refine it_T (by walk_at "side") ?_) | (refine it_F (by walk_at "side") ?_) | walk_at "more" | walk_at "num"))
local macro_rules | `(tactic| walk_at "num") => `(tactic| first | omega | (show CDiv _ _; exact ⟨by omega, by omega⟩) | (show CMul _ _; first | exact .inl ⟨by omega, by omega⟩ | exact .inr ⟨by omega, by omega⟩) | (show CPow _ _; exact ⟨by decide, by decide, by decide⟩))
local macro_rules | `(tactic| walk_at "more") => `(tactic| fail)
structure DSt where
  cells : List Int
  pos : Nat
  found : Int
  seed : Int
def dst (s : DSt) : D := .list [.list (s.cells.map .int), .int s.pos, .int s.found, .int s.seed]
def szOf (s : DSt) : Int := match s.cells[s.pos]? with
  | some c => 2 * (if c < 0 then -c else c) + (if c < 0 then 1 else 0)
  | none => 0
def drawV (s : DSt) (m : Int) : Int × DSt :=
  if 0 < s.found then (s.found % m, { s with found := s.found / m })
  else if 2 * 10 ^ 18 ≤ szOf s then (szOf s / 2 % (1 * 2 ^ Int.toNat 6000) % m, { s with pos := s.pos + 1, found := szOf s / 2 % (1 * 2 ^ Int.toNat 6000) / m })
  else
    let sd := (s.seed * 48271 + szOf s % 2147483629 * 16807 + ((s.pos : Int) + 1) * 69621 + 11) % 2147483647
    (sd / 16 % m, { s with pos := s.pos + 1, seed := sd })
theorem draw_eq (s : DSt) (m : Int) (hm : 0 < m) (hm2 : m < 1073741824) : F__law_draw [some (dst s), some (.int m)] = some (.ok (.int (drawV s m).1) [some (dst (drawV s m).2), some (.int m)]) := by
  unfold F__law_draw
  by_cases h : 0 < s.found
  · unfold drawV
    rw [if_pos h]
    apply r_fn
    rfl
    show g__law_draw [some (dst s), some (.int m), none, none, none] = _
    unfold g__law_draw
    walk_at "go"
  · have tail : ∀ (sz : Int) (o : Option D), szOf s = sz → 0 ≤ sz → (s.pos < s.cells.length → ∃ c, atI (s.cells.map PyData.int) (s.pos : Int) = some (.int c) ∧ sz = 2 * (if c < 0 then -c else c) + (if decide (c < 0) = true then 1 else 0)) → (¬ s.pos < s.cells.length → sz = 0) →
        fnD 5 [2, 3, 4] g__law_draw [some (dst s), some (.int m)] = some (.ok (.int (drawV s m).1) [some (dst (drawV s m).2), some (.int m)]) := fun sz o es h0 hc hn => by
      unfold drawV
      rw [if_neg h, es]
      by_cases h4 : 2 * 10 ^ 18 ≤ sz
      · rw [if_pos h4]
        by_cases h2 : s.pos < s.cells.length
        · obtain ⟨c, hc, e⟩ := hc h2
          apply r_fn
          rfl
          show g__law_draw [some (dst s), some (.int m), none, none, none] = _
          unfold g__law_draw
          walk_at "go"
          rw [← e]
          refine it_T (decide_eq_true h4) ?_
          walk_at "go"
          · exact Int.mul_pos (by decide) (Int.pow_pos (by decide))
          walk_at "go"
        · have e := hn h2
          omega
      · rw [if_neg h4]
        by_cases h2 : s.pos < s.cells.length
        · obtain ⟨c, hc, e⟩ := hc h2
          apply r_fn
          rfl
          show g__law_draw [some (dst s), some (.int m), none, none, none] = _
          unfold g__law_draw
          walk_at "go"
          rw [← e]
          refine it_F (decide_eq_false h4) ?_
          walk_at "go"
        · have e := hn h2
          subst e
          apply r_fn
          rfl
          show g__law_draw [some (dst s), some (.int m), none, none, none] = _
          unfold g__law_draw
          walk_at "go"
    by_cases h2 : s.pos < s.cells.length
    · have e : s.cells[s.pos]? = some s.cells[s.pos] := List.getElem?_eq_getElem h2
      generalize s.cells[s.pos] = c at e
      refine tail (2 * (if c < 0 then -c else c) + (if c < 0 then 1 else 0)) none (by unfold szOf; rw [e]) (by split <;> omega) (fun _ => ⟨c, atI_nat (by rw [List.getElem?_map, e]; rfl), by by_cases hc : c < 0 <;> simp [hc]⟩) fun n => absurd h2 n
    · refine tail 0 none (by unfold szOf; rw [List.getElem?_eq_none (by omega)]) (Int.le_refl 0) (fun n => absurd n h2) fun _ => rfl
theorem drawV_ge (s : DSt) {m : Int} (hm : 0 < m) : 0 ≤ (drawV s m).1 := by
  unfold drawV
  split
  · exact Int.emod_nonneg _ (by omega)
  · split
    · exact Int.emod_nonneg _ (by omega)
    · exact Int.emod_nonneg _ (by omega)
theorem drawV_lt (s : DSt) {m : Int} (hm : 0 < m) : (drawV s m).1 < m := by
  unfold drawV
  split
  · exact Int.emod_lt_of_pos _ hm
  · split
    · exact Int.emod_lt_of_pos _ hm
    · exact Int.emod_lt_of_pos _ hm
theorem draw_w {s : DSt} {m : Int} {Q : D → DEnv → Prop} (hm : 0 < m ∧ m < 1073741824) (h : ∀ v s', 0 ≤ v → v < m → Q (.int v) [some (dst s'), some (.int m)]) : wp (F__law_draw [some (dst s), some (.int m)]) Q :=
  w_eq (draw_eq s m hm.1 hm.2) (h _ _ (drawV_ge s hm.1) (drawV_lt s hm.1))
end DL
set_option maxHeartbeats 4000000
/-! C2: the law's first def, its first line, and the law rule. -/
namespace DL
open PySem PySem.Spec PyProof.Rows L2
def spBegin (K : PySem.W.Frag) : Sp := fun vs H Q _ => ∃ (a : Addr) (ns : List Int), vs = [.ref a] ∧ SqL K H a (ns.map V.int) ∧ ns.length ≤ 63 ∧ ∀ v H' F, NewV K H v (dst ⟨ns, 0, 0, 7⟩) H' F → Q v H'
theorem ints_reps {K : PySem.W.Frag} {H : Hp} : ∀ ns : List Int, Reps K H (ns.map V.int) (ns.map PyData.int) []
  | [] => .nil
  | n :: r => by
    have := Reps.cons (Rep.int (K := K) (H := H) n) (ints_reps r)
    exact this
theorem tYes_of {σ : L2.St} {H : Hp} {A B : Hp → Prop} (h : A H) : tYes σ H fun b H3 => if b = true then A H3 else B H3 := by
  unfold tYes
  exact h
theorem start_at0 {N : List Str} {v : V} {vs : List V} : (L2.start N (v :: vs))[0]? = some (some v) := rfl
theorem sqL_new {K : PySem.W.Frag} {H : Hp} {a D : Addr} {vs : List V} {o : HO} (h : SqL K H a vs) (hD : H D = none) : SqL K (upd H D o) a vs := by
  rcases h with (h | ⟨o2, h⟩) | h
  · exact .inl (.inl (by rw [upd_ne (ne_of_none h hD)]; exact h))
  · exact .inl (.inr ⟨o2, by rw [upd_ne (ne_of_none h hD)]; exact h⟩)
  · exact .inr h
theorem begin_ok {P : Program} {w : World} {K : PySem.W.Frag} {mg : Str → Option Value} {base : Heap} {st : Stmt} {f : Addr} {fd : FuncData} {k : Nat} {scope : Scope} {p1 p2 p3 p4 p5 p6 p7 p8 p9 p10 p11 : Pos} {j1 j2 j3 : Nat}
    (Fu : Fun K "_law_begin" "_law_begin" st f fd) (Sc : FnScope ["script", "cell"] ["script"] (defScope st))
    (hb : defBody st = [.Return (some (.List [.ListComp (.Call (.Name "int" p1) [.Name "cell" p2] [] p3) [⟨.Name "cell" p4, .Name "script" p5, [], 0⟩] scope p6, .Constant (.int 0) j1 p7, .Constant (.int 0) j2 p8, .Constant (.int 7) j3 p9] p10)) p11])
    (blk : BlkOk ["script", "cell"] (defScope st) scope [("cell", 1)]) (n0 : ∀ E, NmS ⟨P, w, K, mg, base, ["script", "cell"], defScope st, fun _ => true, k, E⟩ 0 "script")
    (n1 : ∀ E, NmS (subS ⟨P, w, K, mg, base, ["script", "cell"], defScope st, fun _ => true, k, E⟩ scope) 1 "cell") (t1 : ∀ E, NmT (subS ⟨P, w, K, mg, base, ["script", "cell"], defScope st, fun _ => true, k, E⟩ scope) 1 "cell")
    (bi : ∀ E, BtS (subS ⟨P, w, K, mg, base, ["script", "cell"], defScope st, fun _ => true, k, E⟩ scope) "int") : FnOk P w K mg base (L2.CX P w) (k + 1) f fd ["script"] (spBegin K) := by
  refine Fu.okX Sc (fun vs H Q E h => ?_) fun cdv Ar outer s H vs Q E hr h => ?_
  · obtain ⟨a, ns, rfl, _⟩ := h; rfl
  obtain ⟨a, ns, rfl, hS, hl, hQ⟩ := h
  have hfit : Fits ⟨P, w, K, mg, base, ["script", "cell"], defScope st, fun _ => true, k, E⟩ (cxOf (L2.CX P w) P w K mg base ["script", "cell"] "_law_begin" (defScope st) f cdv Ar outer s H E) :=
    ⟨rfl, rfl, rfl, rfl, rfl, rfl, rfl, fun _ _ => rfl, hr, rfl, takes_of rfl rfl rfl rfl, passes_of rfl⟩
  rw [hb]
  refine ⟨_, pss_cons (ps_ret (pe_lst (pa_cons (pe_lc (own := [("cell", 1)]) (g := gName 1) (tt := tYes) rfl Sc.nd (pi_list ((n0 E).pe hfit)) blk (fun s H C cl fp => (t1 E).pg (hfit.sub s H C cl fp)) (fun s H C cl fp => pts_nil) (fun s H C cl fp => pe_callTy call_int1 ((bi E).g (hfit.sub s H C cl fp)) ((bi E).m (hfit.sub s H C cl fp)) (by decide +kernel) (pa_cons ((n1 E).pe (hfit.sub s H C cl fp)) pa_nil)))
    (pa_cons pe_int (pa_cons pe_int (pa_cons pe_int pa_nil)))))) pss_nil, ?_⟩
  refine ⟨.ref a, rfl, a, rfl, ⟨_, hS⟩, fun D hD => ?_⟩
  refine lc_list (xs := ns.map V.int) (fun i H' => H' = upd H D (.lst ((ns.take i).map V.int))) rfl (fun i H' _ e => ?_) (fun i x H' hx e => ?_) fun H' e => ?_
  · subst e; exact sqL_new hS hD
  · subst e
    rw [List.getElem?_map] at hx
    cases hn : ns[i]? with
    | none => rw [hn] at hx; cases hx
    | some n =>
      rw [hn] at hx
      cases hx
      have hi := (List.getElem?_eq_some_iff.mp hn).1
      refine ⟨rfl, tYes_of ?_⟩
      refine ⟨.int n, rfl, .inl ⟨n, rfl, (ns.take i).map V.int, upd_same, by rw [List.length_map, List.length_take, sizeLine_eq]; omega, ?_⟩⟩
      rw [upd_upd, List.take_add_one, hn, List.map_append]
      rfl
  · refine ⟨by rw [sizeLine_eq]; show (4 : Nat) ≤ _; omega, fun p hp => ?_⟩
    subst e
    rw [List.length_map, List.take_length] at hp ⊢
    have hpd : p ≠ D := fun z => by rw [z, upd_same] at hp; cases hp
    have hp0 : H p = none := by rw [upd_ne hpd] at hp; exact hp
    refine hQ _ _ [p, D] ⟨?_, ?_, ?_, ?_⟩
    · exact (Keep.new hD).trans (Keep.new hp) (fun _ _ z => z) fun _ _ z => z
    · refine Rep.lst (F := [D]) upd_same ?_
      exact .cons (F := [D]) (.lst (by rw [upd_ne (Ne.symm hpd)]; exact upd_same) (ints_reps ns)) (.cons (.int _) (.cons (.int _) (.cons (.int _) .nil)))
    · intro b m
      rcases List.mem_cons.mp m with m | m
      · subst m; exact hp0
      · have : b = D := by simpa using m
        subst this; exact hD
    · exact List.nodup_cons.mpr ⟨by simpa using hpd, by simp⟩
def spLaw (K : PySem.W.Frag) : Sp := fun vs H Q _ => ∃ (a : Addr) (ns : List Int), vs = [.ref a] ∧ SqL K H a (ns.map V.int) ∧ ns.length ≤ 63 ∧ ∀ H', Q (.bl true) H'
theorem law_rule {P : Program} {w : World} {K : PySem.W.Frag} {mg : Str → Option Value} {base : Heap} {st : Stmt} {rest : List Stmt} {f fb : Addr} {fd fdb : FuncData} {k kb n : Nat} {p1 p2 p3 p4 p5 : Pos} {N : List Str} {M A : List Nat} {g : EM Fl}
    (Fu : Fun K "law" "law" st f fd) (Sc : FnScope N ["script"] (defScope st)) (FB : FnOk P w K mg base (L2.CX P w) kb fb fdb ["script"] (spBegin K)) (hmb : mg "_law_begin" = some (.ref fb)) (kpb : PySem.W.keepIn K (.ref fb) = true) (bib : Binds K fdb ["script"] []) (hkb : kb ≤ k)
    (hb : defBody st = .Assign [.Name "d" p1] (.Call (.Name "_law_begin" p2) [.Name "script" p3] [] p4) p5 :: rest) (hn : N.length = n + 2)
    (n0 : ∀ E, NmS ⟨P, w, K, mg, base, N, defScope st, fun _ => true, k, E⟩ 0 "script") (t1 : ∀ E, NmT ⟨P, w, K, mg, base, N, defScope st, fun _ => true, k, E⟩ 1 "d") (gl : (defScope st).names.lookup ("_law_begin" : Str) = some NameKind.globalImplicit)
    (hr : ∀ E, DSs ⟨P, w, K, mg, base, N, defScope st, fun _ => true, k, E⟩ rest M A g)
    (hg : ∀ ns : List Int, ns.length ≤ 63 → wp (g (none :: some (dst ⟨ns, 0, 0, 7⟩) :: List.replicate n none)) fun fl _ => fl = .rt (.bool true)) : FnOk P w K mg base (L2.CX P w) (k + 1) f fd ["script"] (spLaw K) := by
  refine Fu.okX Sc (fun vs H Q E h => ?_) fun cdv Ar outer s H vs Q E hroom h => ?_
  · obtain ⟨a, ns, rfl, _⟩ := h; rfl
  obtain ⟨a, ns, rfl, hS, hl, hQ⟩ := h
  have hfit : Fits ⟨P, w, K, mg, base, N, defScope st, fun _ => true, k, E⟩ (cxOf (L2.CX P w) P w K mg base N "law" (defScope st) f cdv Ar outer s H E) :=
    ⟨rfl, rfl, rfl, rfl, rfl, rfl, rfl, fun _ _ => rfl, hroom, rfl, takes_of rfl rfl rfl rfl, passes_of rfl⟩
  rw [hb]
  refine ⟨_, pss_cons (ps_set Sc.nd (t1 E).hN (t1 E).loc (pe_call (CX := L2.CX P w) (k := kb) (f := fb) (fd := fdb) (ps := ["script"]) (ds := []) FB (hfit.room.mono hkb) gl hmb kpb bib .nil (Passes_of hfit) (pa_cons ((n0 E).pe hfit) pa_nil)) rfl (.inl rfl)) (pss_tB hfit), ?_⟩
  refine ⟨.ref a, start_at0, a, ns, rfl, hS, hl, fun v H' F nv => ?_⟩
  obtain ⟨fl, δ', e, rfl⟩ := hg ns hl
  have hlen : (L2.start N [V.ref a]).length = n + 2 := by unfold L2.start; simp [hn]
  have hd1 : ∀ i d, (none :: some (dst ⟨ns, 0, 0, 7⟩) :: List.replicate n (none : Option D))[i]? = some (some d) → i = 1 ∧ d = dst ⟨ns, 0, 0, 7⟩ := fun i d h => by
    match i, h with
    | 0, h => cases h
    | 1, h => exact ⟨rfl, by cases h; rfl⟩
    | i + 2, h =>
      have h : (List.replicate n (none : Option D))[i]? = some (some d) := h
      rw [List.getElem?_replicate] at h
      split at h <;> cases h
  refine hr E ((L2.start N [V.ref a]).set 1 (some v)) H' _ (fun i => if i = 1 then F else []) _ _ ⟨?_, fun i d hd => ?_, fun i hno => ?_⟩ ⟨List.nodup_nil, fun i => ?_, fun i j hij b m => ?_, fun i b m => (nomatch m)⟩ e ?_
  · rw [List.length_set, hlen]; simp
  · obtain ⟨rfl, rfl⟩ := hd1 i d hd
    exact ⟨v, by rw [List.getElem?_set_self (by omega)], nv.rep⟩
  · by_cases h1 : i = 1
    · subst h1; exact absurd rfl (hno _)
    · exact if_neg h1
  · by_cases h1 : i = 1
    · rw [if_pos h1]; exact nv.nd
    · rw [if_neg h1]; exact List.nodup_nil
  · by_cases h1 : i = 1
    · rw [if_neg (by omega)]; exact fun z => (nomatch z)
    · rw [if_neg h1] at m; cases m
  · intro v' σ' H2 Fs' Fr p sa rp
    cases rp
    exact hQ H2
end DL
set_option maxHeartbeats 4000000
/-! DL23: [tuple(y) for y in x] where x holds lists. -/
namespace DL
open PySem PySem.Spec PyProof.Rows L2
def tupsD : List D → Option (List D)
  | [] => some []
  | d :: r => match gTuple [d], tupsD r with
    | some t, some ts => some (t :: ts)
    | _, _ => none
def cCompTup (v j : Nat) : EM D := fun δ => match lstAt δ j with
  | some ds => if v < δ.length ∧ ds.length ≤ 1000000 then match tupsD ds with
    | some ts => some (.ok (.list ts) δ)
    | none => none
    else none
  | none => none
theorem tupsD_get : ∀ {ds ts : List D}, tupsD ds = some ts → ts.length = ds.length ∧ ∀ (i : Nat) (d : D), ds[i]? = some d → ∃ t, ts[i]? = some t ∧ gTuple [d] = some t
  | [], ts, h => by cases h; exact ⟨rfl, fun i d e => by simp at e⟩
  | d :: r, ts, h => by
    unfold tupsD at h
    cases h1 : gTuple [d] with
    | none => rw [h1] at h; cases h
    | some t =>
      cases h2 : tupsD r with
      | none => rw [h1, h2] at h; cases h
      | some us =>
        rw [h1, h2] at h
        cases h
        obtain ⟨hl, hg⟩ := tupsD_get h2
        refine ⟨by rw [List.length_cons, List.length_cons, hl], fun i x e => ?_⟩
        cases i with
        | zero => cases e; exact ⟨t, rfl, h1⟩
        | succ i => exact hg i x e
theorem gTuple_imm {d t : D} (h : gTuple [d] = some t) : imm t = true := by
  unfold gTuple at h
  split at h
  · split at h
    · rename_i hi; cases h; rw [imm_tup]; exact hi
    · cases h
  · split at h
    · rename_i hi; cases h; rw [imm_tup]; exact hi
    · cases h
  · cases h
def rTup (K : PySem.W.Frag) : List V → Hp → VK → Prop := fun xs H Q => ∃ p ys, xs = [V.ref p] ∧ ((SqL K H p ys ∧ ∀ l, H l = none → Q (.ref l) (upd H l (.tup ys))) ∨ (SqT K H p ys ∧ Q (.ref p) H))
theorem vok_tuple {K : PySem.W.Frag} {d t : D} (h : gTuple [d] = some t) : VOk K (rTup K) [d] t := by
  unfold gTuple at h
  intro H vs F Q r k
  split at h
  · rename_i e
    cases e
    split at h
    · rename_i hi
      cases h
      obtain ⟨v, _, rfl, r1⟩ := r.i1
      obtain ⟨q, ws, G, rfl, hq, s⟩ := lst_read r1
      exact ⟨q, ws, rfl, .inl ⟨hq, fun l hl => k _ _ _ (NewV.tup hl (s.imm' hi))⟩⟩
    · cases h
  · rename_i e
    cases e
    split at h
    · rename_i hi
      cases h
      obtain ⟨v, _, rfl, r1⟩ := r.i1
      have r2 := r1.imm' (by rw [imm_tup]; exact hi)
      obtain ⟨q, ws, rfl, hq, s⟩ := r2.iTup
      exact ⟨q, ws, rfl, .inr ⟨hq, k _ _ _ (.same r2)⟩⟩
    · cases h
  · cases h
theorem tBA_one {S : Sig} {e : Expr} {σ : L2.St} {H : Hp} {Q : List V → Hp → Prop} (h : tB S e σ H fun x H1 => Q [x] H1) : tBA S [e] σ H Q := h
theorem de_compTup {S : Sig} {x y : Str} {j v : Nat} {scope : Scope} {p p2 p3 p4 p5 pos : Pos} (nd : S.N.Nodup) (nj : NmS S j x) (blk : BlkOk S.N S.sc scope [(y, v)]) (hs : ∀ env z, foldedSetIterable (.Name x p5) env z = pure z)
    (ty : NmT (subS S scope) v y) (ny : NmS (subS S scope) v y) (bt : BtS (subS S scope) "tuple") : DE S (.ListComp (.Call (.Name "tuple" p) [.Name y p2] [] p3) [⟨.Name y p4, .Name x p5, [], 0⟩] scope pos) .own [] (cCompTup v j) := fun σ H δ Fs Q r E s hf k => by
  have g : ∀ X, Fits (subS S scope) X → PE X (.Call (.Name "tuple" p) [.Name y p2] [] p3) (fun σ H Q => tBA (subS S scope) [.Name y p2] σ H fun vs H1 => rTup S.K vs H1 Q) :=
    f_callTy bt (fun X h => by have e := call_tuple_of (X := X); rw [h.K] at e; exact e) (by decide +kernel) ⟨fun _ => rfl, trivial⟩
  refine ⟨_, fun X hX => pe_lc (own := [(y, v)]) (wi := iList S.K (tVar j)) (g := gName v) (tt := tYes) hX.calm (by rw [hX.N]; exact nd) (by have e := pi_list (tg := .Name y p4) (nj.pe (pos := p5) hX); rw [hX.K] at e; exact e) (by rw [hX.N, hX.sc]; exact blk) (fun s H C cl fp => ty.pg (hX.sub s H C cl fp)) (fun s H C cl fp => pts_nil) (fun s H C cl fp => g _ (hX.sub s H C cl fp)) (hs _), ?_⟩
  unfold cCompTup at hf
  cases q0 : lstAt δ j with
  | none => rw [q0] at hf; cases hf
  | some ds =>
    rw [q0] at hf
    dsimp only at hf
    by_cases hc : v < δ.length ∧ ds.length ≤ 1000000
    · rw [if_pos hc] at hf
      cases q1 : tupsD ds with
      | none => rw [q1] at hf; cases hf
      | some ts =>
        rw [q1] at hf
        cases hf
        obtain ⟨a, vs, G, hv, hH, rs, hF⟩ := slot_list E (lstAt_some q0)
        obtain ⟨hl, hg⟩ := tupsD_get q1
        refine ⟨.ref a, hv, a, rfl, ⟨vs, sqL_of hH⟩, fun dd hdd => ?_⟩
        refine lc_list (K := S.K) (g := gName v) (tt := tYes) (te := fun σ H Q => tBA (subS S scope) [Expr.Name y p2] σ H fun vs H1 => rTup S.K vs H1 Q) (vs := [v]) (σ := σ) (Qd := Q (.ref dd)) (xs := vs) (fun i H' => ∃ acc, H' dd = some (.lst acc) ∧ Reps S.K H' acc (ts.take i) [] ∧ Keep (fun _ => False) H H') ⟨[], upd_same, .nil, .new hdd⟩ (fun i H' _ ⟨acc, _, _, kp⟩ => sqL_of (kp a _ hH (.inl id))) (fun i z H' hz ⟨acc, hd, ra, kp⟩ => ?_) fun H' ⟨acc, hd, ra, kp⟩ => ?_
        · have hw := wipe_setsV (is := [v]) (vs := [z]) (σ := L2.wipe σ [v]) (ws := [v]) fun i m => m
          refine ⟨hw.trans (wipe_wipe σ [v]), tYes_of ?_⟩
          apply tBA_one
          have hlen : v < (L2.wipe σ [v]).length := by rw [L2.wipe_length, E.len]; exact hc.1
          refine ⟨tVar v, fun X hX => ny.pe hX, z, by rw [List.getElem?_set_self hlen], ?_⟩
          obtain ⟨d, G', hd', rz, _⟩ := rs.getV hz
          obtain ⟨t, ht, htup⟩ := hg i d hd'
          have rz' := rz.keep kp (fun _ _ h => h)
          refine vok_tuple htup H' [z] (G' ++ []) _ (.cons rz' .nil) fun y H4 Fz n => ?_
          have eF := n.rep.imm (gTuple_imm htup)
          subst eF
          have hd4 : H4 dd = some (.lst acc) := n.keep dd _ hd (.inl id)
          have hal := ra.length
          have hil := (List.getElem?_eq_some_iff.mp hd').1
          have hat : (ts.take i).length ≤ i := by rw [List.length_take]; omega
          refine ⟨acc, hd4, lim_lt (by omega), acc ++ [y], upd_same, ?_, ?_⟩
          · have r1 := (ra.keep n.keep fun _ m => (nomatch m)).append (.cons n.rep .nil)
            rw [List.take_add_one, ht]
            exact r1.keep (Keep.upd (B := fun a => a = dd) rfl fun u e => by rw [hd4] at e; cases e; rfl) fun _ m => (nomatch m)
          · intro b o hb c
            have hne : b ≠ dd := fun e => by rw [e, hdd] at hb; cases hb
            rw [upd_ne hne]
            exact n.keep b o (kp b o hb c) c
        · have hvl := rs.length
          have htk : ts.take vs.length = ts := List.take_of_length_le (by omega)
          rw [htk] at ra
          refine k (.ref dd) H' Fs [dd] ⟨E.keep kp fun _ _ _ h => h, ⟨List.nodup_cons.mpr ⟨fun m => (nomatch m), List.nodup_nil⟩, s.nds, s.dis, fun i b m m' => ?_⟩, fun b m => ?_, fun i m => (nomatch m), fun b m => ?_, kp.imp fun _ _ h => h.elim, fun _ _ => ⟨rfl, rfl⟩⟩ (.lst hd ra)
          · have e : b = dd := by simpa using m
            subst e
            obtain ⟨o, ho, _⟩ := E.trk m'
            rw [hdd] at ho; cases ho
          · have e : b = dd := by simpa using m
            subst e
            exact ⟨_, hd, rfl⟩
          · have e : b = dd := by simpa using m
            subst e
            exact .inr hdd
    · rw [if_neg hc] at hf; cases hf
end DL
set_option maxHeartbeats 4000000
/-! C3: the laws' common helpers. -/
namespace DL
open PySem PySem.Spec PyProof.Rows L2
theorem w_popAt {j : Nat} {δ : DEnv} {f : EM D} {ds0 : List D} {Q : D → DEnv → Prop} (h0 : δ[j]? = some (some (.list ds0)))
    (h : wp (f δ) fun x δ1 => ∃ i ds k y, x = .int i ∧ δ1[j]? = some (some (.list ds)) ∧ ixN ds.length i = some k ∧ ds[k]? = some y ∧ (imm y = true ∧ ds.length ≤ 1000000) ∧ Q y (δ1.set j (some (.list (ds.eraseIdx k))))) : wp (cPopAt j f δ) Q := by
  obtain ⟨x, δ1, e, i, ds, k, y, rfl, e1, e2, e3, hc, q⟩ := h
  exact w_eq (r_popAt h0 e e1 e2 e3 hc.1 hc.2) q
def g__law_pick : EM Fl := cSeq (cRet (cV (cArgs [(.sl 1, cSl 1), (.own, cCall [.sl 0, .own] F__law_draw [0] (cArgs [(.sl 0, cSl 0), (.own, cV (cArgs [(.sl 1, cSl 1)]) gLen)]))]) gIx)) (cNx)
@[irreducible] def F__law_pick : EM D := fnD 2 [] g__law_pick
def g__law_pop : EM Fl := cSeq (cRet (cPopAt 1 (cCall [.sl 0, .own] F__law_draw [0] (cArgs [(.sl 0, cSl 0), (.own, cV (cArgs [(.sl 1, cSl 1)]) gLen)])))) (cNx)
@[irreducible] def F__law_pop : EM D := fnD 2 [] g__law_pop
def g__law_shuffled : EM Fl := cSeq (cAsg 2 (cV (cArgs [(.sl 1, cSl 1)]) gList)) (cSeq (cAsg 3 (cV (cArgs []) gLst)) (cSeq (cFor (cRng gRng1 (cArgs [(.own, cV (cArgs [(.sl 2, cSl 2)]) gLen)])) (.nm 4) (cSeq (cApp 3 (cPopAt 2 (cCall [.sl 0, .own] F__law_draw [0] (cArgs [(.sl 0, cSl 0), (.own, cV (cArgs [(.sl 2, cSl 2)]) gLen)])))) (cNx))) (cSeq (cRet (cMv 3)) (cNx))))
@[irreducible] def F__law_shuffled : EM D := fnD 5 [2, 3, 4] g__law_shuffled
local macro_rules | `(tactic| walk_at "w1") => `(tactic| first
  | ((with_reducible apply w_sl); exact rfl) | ((with_reducible apply w_setK); exact rfl) | ((with_reducible apply w_alias); exact rfl) | ((with_reducible apply w_popAt); exact rfl) | ((with_reducible apply w_mv); exact rfl) | ((with_reducible apply w_augI); exact rfl) | ((with_reducible apply w_setI); exact rfl) | ((with_reducible apply w_app); exact rfl) 
  | with_reducible first
  | apply w_seq | apply w_cont | apply w_contR | apply w_nx | apply w_contC | apply w_contB | apply w_if | apply w_ret | apply w_retN | apply w_asg | apply w_drop
  | apply w_asgT | apply w_args_nil | apply w_args | apply w_V | apply w_c | apply w_imm | apply w_bl | apply w_tr
  | apply w_not | apply w_and | apply w_or | apply w_ofB | apply w_ifE | apply w_call | apply w_items | apply w_enum | apply w_rng
  | apply w_map0 | apply w_map1 | apply w_map2 | apply w_map3 | apply w_map4 | apply w_map5 | apply w_map6 | apply w_for | apply w_yes | apply p_iteT | apply p_iteF | apply w_intC | apply w_ok)
local macro_rules | `(tactic| walk_at "side") => `(tactic| first | assumption | omega | with_reducible rfl | rfl | decide | (simp only [decide_eq_true_eq, decide_eq_false_iff_not, List.length_map]; omega))
local macro_rules | `(tactic| walk_at "num") => `(tactic| first | omega | (refine ⟨by omega, by omega⟩) | (show CDiv _ _; exact ⟨by omega, by omega⟩) | (show CMul _ _; first | exact .inl ⟨by omega, by omega⟩ | exact .inr ⟨by omega, by omega⟩) | (show CPow _ _; exact ⟨by decide, by decide, by decide⟩))
local macro_rules | `(tactic| walk_at "val") => `(tactic| first
  | assumption
  | ((with_reducible apply DL.v_mul); walk_at "num") | ((with_reducible apply DL.v_fdiv); walk_at "num") | ((with_reducible apply DL.v_mod); omega) | ((with_reducible apply DL.v_adds); walk_at "num") | ((with_reducible apply DL.v_len_str); walk_at "side") | (with_reducible exact DL.v_len_list) | ((with_reducible apply DL.v_rng1); omega)
  | ((with_reducible apply DL.v_lst); decide) | ((with_reducible apply DL.v_list_l); assumption) | ((with_reducible apply DL.v_addl) <;> walk_at "side") | walk_at "val2" | exact rfl)
local macro_rules | `(tactic| walk_at "val2") => `(tactic| fail)
local macro_rules | `(tactic| walk_at "ex") => `(tactic| first | refine ⟨_, by walk_at "val", ?_⟩ | refine ⟨rfl, ?_⟩)
local macro_rules | `(tactic| walk_at "br") => `(tactic| first | (with_reducible refine w_iteT (by walk_at "side") ?_) | (with_reducible refine w_iteF (by walk_at "side") ?_) | ((with_reducible apply w_iteD) <;> intro) | ((with_reducible apply w_ite) <;> intro))
local macro_rules | `(tactic| walk_at "go") => `(tactic| repeat' (first | walk_at "w1" | exact rfl | walk_at "more" | walk_at "br" | walk_at "ex" | fail))
local macro_rules | `(tactic| walk_at "more") => `(tactic| fail)
set_option hygiene false in
local macro_rules | `(tactic| walk_at "more") => `(tactic| first
  | (with_reducible refine draw_w ?_ ?_; walk_at "num"; intro v s' hv0 hv1))
theorem at_toNat {α : Type} {xs : List α} {v : Int} (h0 : 0 ≤ v) (h1 : v < xs.length) : ∃ x, x ∈ xs ∧ atI xs v = some x := by
  obtain ⟨n, rfl⟩ := Int.eq_ofNat_of_zero_le h0
  have hj : n < xs.length := by omega
  exact ⟨xs[n], List.getElem_mem hj, atI_nat (List.getElem?_eq_getElem hj)⟩
theorem pick_w {s : DSt} {row : D} {n : Nat} {Q : D → DEnv → Prop} (hl : lenD row = some n) (hn : 0 < n ∧ n < 1073741824) (P : D → Prop) (hx : ∀ v : Int, 0 ≤ v → v < n → ∃ x, ixD row (.int v) = some x ∧ imm x = true ∧ P x) (h : ∀ x s', P x → Q x [some (dst s'), some row]) : wp (F__law_pick [some (dst s), some row]) Q := by
  have hl2 : gLen [row] = some (.int n) := by unfold gLen; dsimp only; rw [hl]; rfl
  have h0 := hn.1
  have h1 := hn.2
  unfold F__law_pick
  apply w_fn rfl
  show wp (g__law_pick [some (dst s), some row]) _
  unfold g__law_pick
  walk_at "go"
  obtain ⟨x, e, i, p⟩ := hx v hv0 hv1
  refine ⟨_, v_ix e i, ?_⟩
  walk_at "go"
  exact h _ _ p
theorem ixN_nat {n k : Nat} (h : k < n) : ixN n (k : Int) = some k := ixN_of rfl h
theorem imms_at : ∀ {ds : List D} {k : Nat} {y : D}, imms ds = true → ds[k]? = some y → imm y = true
  | [], k, y, _, h => by simp at h
  | d :: ds, 0, y, h, e => by
    have h : (imm d && imms ds) = true := h
    rw [Bool.and_eq_true] at h
    cases e
    exact h.1
  | d :: ds, k + 1, y, h, e => by
    have h : (imm d && imms ds) = true := h
    rw [Bool.and_eq_true] at h
    exact imms_at h.2 e
theorem imms_of : ∀ {ds : List D}, (∀ d ∈ ds, imm d = true) → imms ds = true
  | [], _ => rfl
  | d :: ds, h => by
    show (imm d && imms ds) = true
    rw [h d List.mem_cons_self, imms_of fun e m => h e (List.mem_cons_of_mem _ m)]; rfl
theorem imms_mem {ds : List D} (h : imms ds = true) {d : D} (m : d ∈ ds) : imm d = true := by
  obtain ⟨k, hk⟩ := List.mem_iff_getElem?.mp m
  exact imms_at h hk
theorem pop_w {s : DSt} {ds : List D} {Q : D → DEnv → Prop} (hn : (0 < ds.length ∧ ds.length ≤ 100000) ∧ imms ds = true) (h : ∀ k y s', ds[k]? = some y → Q y [some (dst s'), some (.list (ds.eraseIdx k))]) : wp (F__law_pop [some (dst s), some (.list ds)]) Q := by
  obtain ⟨hn, hi⟩ := hn
  unfold F__law_pop
  apply w_fn rfl
  show wp (g__law_pop [some (dst s), some (.list ds)]) _
  unfold g__law_pop
  walk_at "go"
  obtain ⟨n, rfl⟩ := Int.eq_ofNat_of_zero_le hv0
  have hlt : n < ds.length := by omega
  refine ⟨_, ds, n, ds[n], rfl, rfl, ixN_nat hlt, List.getElem?_eq_getElem hlt, ⟨imms_at hi (List.getElem?_eq_getElem hlt), by omega⟩, ?_⟩
  walk_at "go"
  exact h n _ s' (List.getElem?_eq_getElem hlt)
set_option hygiene false in
local macro_rules | `(tactic| walk_at "more") => `(tactic| first
  | (with_reducible refine draw_w ?_ ?_; walk_at "num"; intro v s' hv0 hv1))
theorem eraseIdx_perm {α : Type} : ∀ {l : List α} {k : Nat} {y : α}, l[k]? = some y → (y :: l.eraseIdx k).Perm l
  | [], k, y, h => by simp at h
  | a :: l, 0, y, h => by cases h; exact .refl _
  | a :: l, k + 1, y, h => by
    have := eraseIdx_perm (l := l) (k := k) (y := y) h
    exact (List.Perm.swap a y _).trans (this.cons a)
theorem imms_perm {ds es : List D} (p : es.Perm ds) (h : imms ds = true) : imms es = true := imms_of fun d m => imms_mem h (p.mem_iff.mp m)
theorem shuffled_w {s : DSt} {row : D} {ds : List D} {Q : D → DEnv → Prop} (hr : gList [row] = some (.list ds)) (hn : ds.length ≤ 100000 ∧ imms ds = true) (h : ∀ ys s', ys.Perm ds → Q (.list ys) [some (dst s'), some row]) : wp (F__law_shuffled [some (dst s), some row]) Q := by
  obtain ⟨hn, hi⟩ := hn
  unfold F__law_shuffled
  apply w_fn rfl
  show wp (g__law_shuffled [some (dst s), some row, none, none, none]) _
  unfold g__law_shuffled
  walk_at "go"
  refine w_loop (fun i δ => ∃ (s' : DSt) (left found : List D) (o : Option D), δ = [some (dst s'), some row, some (.list left), some (.list found), o] ∧ (found ++ left).Perm ds ∧ found.length = i) ⟨s, ds, [], none, rfl, .refl _, rfl⟩ ?_ ?_
  · rintro i d δ hd ⟨s', left, found, o, rfl, hp, hl⟩
    obtain ⟨hi', rfl⟩ := rangeD_get hd
    have hlen := hp.length_eq
    rw [List.length_append] at hlen
    have hll : 0 < left.length := by omega
    have hil : imms left = true := imms_of fun d m => imms_mem hi (hp.mem_iff.mp (List.mem_append_right _ m))
    refine ⟨_, rfl, ?_⟩
    walk_at "go"
    obtain ⟨n, rfl⟩ := Int.eq_ofNat_of_zero_le hv0
    have hlt : n < left.length := by omega
    refine ⟨_, left, n, left[n], rfl, rfl, ixN_nat hlt, List.getElem?_eq_getElem hlt, ⟨imms_at hil (List.getElem?_eq_getElem hlt), by omega⟩, found, rfl, by omega, ?_⟩
    walk_at "go"
    refine ⟨_, _, _, _, rfl, ?_, by rw [List.length_append, hl]; rfl⟩
    rw [List.append_assoc]
    exact ((eraseIdx_perm (List.getElem?_eq_getElem hlt)).append_left found).trans hp
  · rintro δ' ⟨s', left, found, o, rfl, hp, hl⟩
    rw [rangeD_len] at hl
    have hlen := hp.length_eq
    rw [List.length_append] at hlen
    have e : left = [] := List.eq_nil_of_length_eq_zero (by omega)
    subst e
    rw [List.append_nil] at hp
    walk_at "go"
    exact h found s' hp
end DL
set_option maxHeartbeats 4000000
/-! C4: dict data. -/
namespace DL
open PySem PySem.Spec PyProof.Rows L2
theorem hasK_eq {k : Key} {kv : D × D} : hasK k kv = true ↔ keyOf kv.1 = some k := by unfold hasK; simp
theorem find_map {k j : Key} {d : D} : ∀ kvs : List (D × D), findD (kvs.map fun kv => if hasK k kv = true then (kv.1, d) else kv) j = if j = k then (findD kvs j).map (fun _ => d) else findD kvs j
  | [] => by
    show none = _
    split <;> rfl
  | kv :: r => by
    have ih := find_map (k := k) (j := j) (d := d) r
    unfold findD at ih ⊢
    rw [List.map_cons, List.find?_cons, List.find?_cons]
    have e1 : hasK j (if hasK k kv = true then (kv.1, d) else kv) = hasK j kv := by split <;> rfl
    rw [e1]
    cases hj : hasK j kv with
    | false => exact ih
    | true =>
      dsimp only
      by_cases e : j = k
      · subst e
        rw [if_pos rfl, if_pos hj]; rfl
      · rw [if_neg e]
        have : ¬ hasK k kv = true := fun h => e (by
          rw [hasK_eq] at hj h
          rw [hj] at h
          exact Option.some.inj h)
        rw [if_neg this]
theorem find_any {k : Key} : ∀ kvs : List (D × D), kvs.any (hasK k) = (findD kvs k).isSome
  | [] => rfl
  | kv :: r => by
    have ih := find_any (k := k) r
    unfold findD at ih ⊢
    rw [List.any_cons, List.find?_cons, ih]
    cases hasK k kv <;> rfl
theorem find_put {k j : Key} {d : D} {kvs : List (D × D)} : findD (putD kvs k d) j = if j = k then some d else findD kvs j := by
  unfold putD
  by_cases a : kvs.any (hasK k) = true
  · rw [if_pos a, find_map]
    rw [find_any] at a
    by_cases e : j = k
    · subst e
      rw [if_pos rfl, if_pos rfl]
      obtain ⟨y, hy⟩ := Option.isSome_iff_exists.mp a
      rw [hy]; rfl
    · rw [if_neg e, if_neg e]
  · rw [if_neg a]
    rw [find_any] at a
    unfold findD at a ⊢
    rw [List.find?_append, Option.map_or]
    by_cases e : j = k
    · subst e
      rw [if_pos rfl]
      have : (kvs.find? (hasK j)).map (·.2) = none := by
        cases q : (kvs.find? (hasK j)).map (·.2) with
        | none => rfl
        | some y => rw [q] at a; exact absurd rfl a
      rw [this, List.find?_cons, hasK_key, decide_eq_true rfl]; rfl
    · rw [if_neg e, List.find?_cons, hasK_key, decide_eq_false (fun h => e h.symm)]
      show ((kvs.find? (hasK j)).map (·.2)).or none = _
      rw [Option.or_none]
theorem putD_len {k : Key} {d : D} {kvs : List (D × D)} : (putD kvs k d).length ≤ kvs.length + 1 := by
  unfold putD
  split
  · rw [List.length_map]; omega
  · rw [List.length_append]; exact Nat.le_refl _
theorem putD_plain {k : Key} {d : D} {kvs : List (D × D)} (h : plainD kvs = true) (hd : imm d = true) : plainD (putD kvs k d) = true := by
  unfold putD
  unfold plainD at h ⊢
  split
  · rw [List.all_map, List.all_eq_true]
    intro kv m
    have := List.all_eq_true.mp h kv m
    rw [Bool.and_eq_true] at this
    show ((keyOf (if hasK k kv = true then (kv.1, d) else kv).1).isSome && imm (if hasK k kv = true then (kv.1, d) else kv).2) = true
    split
    · rw [this.1, hd]; rfl
    · rw [this.1, this.2]; rfl
  · rw [List.all_append, h, List.all_cons, keyOf_keyD, hd]; rfl
end DL
set_option maxHeartbeats 4000000
/-! DL24: places within a slot's data. -/
namespace DL
open PySem PySem.Spec PyProof.Rows L2
/-- one step into data: an item of a list, a value of a dict (by its position) -/
inductive Sel where
  | ix (k : Nat)
  | dv (i : Nat)
def getP : D → List Sel → Option D
  | d, [] => some d
  | .list ds, .ix k :: p => match ds[k]? with
    | some e => getP e p
    | none => none
  | .dict kvs, .dv i :: p => match kvs[i]? with
    | some (.none, _) => none
    | some (_, e) => getP e p
    | none => none
  | _, _ :: _ => none
def putP : D → List Sel → D → Option D
  | _, [], e => some e
  | .list ds, .ix k :: p, e => match ds[k]? with
    | some d => (putP d p e).map fun d' => .list (ds.set k d')
    | none => none
  | .dict kvs, .dv i :: p, e => match kvs[i]? with
    | some (q, d) => (putP d p e).map fun d' => .dict (kvs.set i (q, d'))
    | none => none
  | _, _ :: _, _ => none
inductive WalkP (H : Hp) : V → List Sel → V → Prop
  | nil {v : V} : WalkP H v [] v
  | ix {a : Addr} {vs : List V} {k : Nat} {v w : V} {p : List Sel} : H a = some (.lst vs) → vs[k]? = some v → WalkP H v p w → WalkP H (.ref a) (.ix k :: p) w
  | dk {a : Addr} {kvs : List (Key × V)} {i : Nat} {k : Key} {v w : V} {p : List Sel} : H a = some (.dK kvs) → kvs[i]? = some (k, v) → WalkP H v p w → WalkP H (.ref a) (.dv i :: p) w
  | dt {a : Addr} {kvs : List (List Key × V)} {i : Nat} {k : List Key} {v w : V} {p : List Sel} : H a = some (.dT kvs) → kvs[i]? = some (k, v) → WalkP H v p w → WalkP H (.ref a) (.dv (i + 1) :: p) w
theorem WalkP.det {H : Hp} {v w : V} {p : List Sel} (h : WalkP H v p w) : ∀ {w' : V}, WalkP H v p w' → w = w' := by
  induction h with
  | nil => intro w' h'; cases h'; rfl
  | ix h1 h2 _ ih =>
    intro w' h'
    cases h' with
    | ix h3 h4 h5 =>
      rw [h1] at h3; cases h3
      rw [h2] at h4; cases h4
      exact ih h5
  | dk h1 h2 _ ih =>
    intro w' h'
    cases h' with
    | dk h3 h4 h5 =>
      rw [h1] at h3; cases h3
      rw [h2] at h4; cases h4
      exact ih h5
    | dt h3 h4 h5 => rw [h1] at h3; cases h3
  | dt h1 h2 _ ih =>
    intro w' h'
    cases h' with
    | dk h3 h4 h5 => rw [h1] at h3; cases h3
    | dt h3 h4 h5 =>
      rw [h1] at h3; cases h3
      rw [h2] at h4; cases h4
      exact ih h5
theorem WalkP.trans {H : Hp} {v u w : V} {p q : List Sel} (h : WalkP H v p u) : WalkP H u q w → WalkP H v (p ++ q) w := by
  induction h with
  | nil => exact id
  | ix h1 h2 _ ih => exact fun k => .ix h1 h2 (ih k)
  | dk h1 h2 _ ih => exact fun k => .dk h1 h2 (ih k)
  | dt h1 h2 _ ih => exact fun k => .dt h1 h2 (ih k)
theorem getP_trans : ∀ {p q : List Sel} {d e : D}, getP d p = some e → getP d (p ++ q) = getP e q
  | [], q, d, e, h => by cases h; rfl
  | s :: p, q, d, e, h => by
    cases d <;> cases s <;> first | (cases h; done) | skip
    · rename_i ds k
      rw [getP] at h
      rw [List.cons_append, getP]
      cases hk : ds[k]? with
      | none => rw [hk] at h; cases h
      | some x => rw [hk] at h; exact getP_trans h
    · rename_i kvs i
      rw [getP] at h
      rw [List.cons_append, getP]
      cases hk : kvs[i]? with
      | none => rw [hk] at h; cases h
      | some x =>
        rw [hk] at h
        obtain ⟨q', x⟩ := x
        cases q' <;> first | (cases h; done) | exact getP_trans h
variable {K : PySem.W.Frag} {H : Hp}
/-- the two kinds of dicts -/
theorem Rep.iDict {v : V} {kvs : List (D × D)} {F : List Addr} (r : Rep K H v (.dict kvs) F) : ∃ (a : Addr) (G : List Addr), v = .ref a ∧ F = a :: G ∧
    ((∃ (ks : List Key) (vs : List V) (ds : List D), H a = some (.dK (ks.zip vs)) ∧ ks.length = vs.length ∧ Reps K H vs ds G ∧ kvs = (ks.map keyD).zip ds) ∨
     (∃ (ks : List (List Key)) (vs : List V) (ds : List D), H a = some (.dT (ks.zip vs)) ∧ ks.length = vs.length ∧ Reps K H vs ds G ∧ kvs = (.none, .none) :: (ks.map tkeyD).zip ds)) := by
  generalize hq : PyData.dict kvs = q at r
  cases r with
  | dK h1 h2 h3 => cases hq; exact ⟨_, _, rfl, rfl, .inl ⟨_, _, _, h1, h2, h3, rfl⟩⟩
  | dT h1 h2 h3 => cases hq; exact ⟨_, _, rfl, rfl, .inr ⟨_, _, _, h1, h2, h3, rfl⟩⟩
  | _ => cases hq
theorem zip_get {α β : Type} {ks : List α} {ds : List β} {i : Nat} {k : α} {d : β} (h : (ks.zip ds)[i]? = some (k, d)) : ks[i]? = some k ∧ ds[i]? = some d := by
  rw [List.getElem?_zip_eq_some] at h
  exact h
theorem zip_set {α β : Type} : ∀ {ks : List α} {ds : List β} {i : Nat} {k : α} {d : β}, ks[i]? = some k → (ks.zip ds).set i (k, d) = ks.zip (ds.set i d)
  | [], ds, i, k, d, h => by simp at h
  | a :: ks, [], i, k, d, h => by simp
  | a :: ks, b :: ds, 0, k, d, h => by cases h; rfl
  | a :: ks, b :: ds, i + 1, k, d, h => by
    have h : ks[i]? = some k := h
    show (a, b) :: (ks.zip ds).set i (k, d) = (a, b) :: ks.zip (ds.set i d)
    rw [zip_set h]
/-- the thing at a place, and what may stand there instead -/
theorem Rep.place : ∀ {p : List Sel} {v : V} {d e : D} {F : List Addr}, Rep K H v d F → getP d p = some e →
    ∃ w F1 F2 F3, WalkP H v p w ∧ Rep K H w e F2 ∧ F = F1 ++ (F2 ++ F3) ∧
      ∀ (H' : Hp) (e' : D) (F' : List Addr) (B : Addr → Prop), Rep K H' w e' F' → Keep B H H' → (∀ a ∈ F1 ++ F3, ¬ B a) → ∃ d', putP d p e' = some d' ∧ Rep K H' v d' (F1 ++ (F' ++ F3))
  | [], v, d, e, F, r, h => by
    cases h
    exact ⟨v, [], F, [], .nil, r, by simp, fun H' e' F' B r' _ _ => ⟨e', rfl, by simpa using r'⟩⟩
  | s :: p, v, d, e, F, r, h => by
    cases d <;> cases s <;> first | (cases h; done) | skip
    · rename_i ds k
      rw [getP] at h
      cases hk : ds[k]? with
      | none => rw [hk] at h; cases h
      | some x =>
        rw [hk] at h
        obtain ⟨a, vs, G, rfl, hH, rs, rfl⟩ := r.iLst
        obtain ⟨u, F1, F2, F3, hu, ru, hG, hput⟩ := rs.pick hk
        obtain ⟨w, G1, G2, G3, hw, rw', hF2, hput2⟩ := Rep.place ru h
        subst hG hF2
        refine ⟨w, a :: (F1 ++ G1), G2, G3 ++ F3, .ix hH hu hw, rw', by simp, fun H' e' F' B r' kp hn => ?_⟩
        obtain ⟨d', h1, h2⟩ := hput2 H' e' F' B r' kp fun z m => hn z (by
          rcases List.mem_append.mp m with m | m <;> simp [m])
        refine ⟨.list (ds.set k d'), by rw [putP, hk]; dsimp only; rw [h1]; rfl, ?_⟩
        have h3 := hput H' d' _ B h2 kp fun z m => hn z (by
          rcases List.mem_append.mp m with m | m <;> simp [m])
        have h4 : H' a = some (.lst vs) := kp a _ hH (.inl (hn a (by simp)))
        have h5 := Rep.lst h4 h3
        simpa using h5
    · rename_i kvs i
      rw [getP] at h
      cases hk : kvs[i]? with
      | none => rw [hk] at h; cases h
      | some x =>
        rw [hk] at h
        obtain ⟨q', x⟩ := x
        have hq' : q' ≠ PyData.none ∧ getP x p = some e := by
          cases q' <;> first | (cases h; done) | exact ⟨fun z => (by cases z), h⟩
        obtain ⟨a, G, rfl, rfl, ⟨ks, vs, ds, hH, hl, rs, rfl⟩ | ⟨ks, vs, ds, hH, hl, rs, rfl⟩⟩ := r.iDict
        · obtain ⟨hk1, hk2⟩ := zip_get hk
          obtain ⟨u, F1, F2, F3, hu, ru, hG, hput⟩ := rs.pick hk2
          obtain ⟨w, G1, G2, G3, hw, rw', hF2, hput2⟩ := Rep.place ru hq'.2
          subst hG hF2
          rw [List.getElem?_map] at hk1
          cases hki : ks[i]? with
          | none => rw [hki] at hk1; cases hk1
          | some ky =>
            rw [hki] at hk1
            refine ⟨w, a :: (F1 ++ G1), G2, G3 ++ F3, .dk hH (List.getElem?_zip_eq_some.mpr ⟨hki, hu⟩) hw, rw', by simp, fun H' e' F' B r' kp hn => ?_⟩
            obtain ⟨d', h1, h2⟩ := hput2 H' e' F' B r' kp fun z m => hn z (by
              rcases List.mem_append.mp m with m | m <;> simp [m])
            refine ⟨.dict ((ks.map keyD).zip (ds.set i d')), ?_, ?_⟩
            · rw [putP, hk]; dsimp only; rw [h1]
              show some (PyData.dict _) = _
              rw [zip_set (by rw [List.getElem?_map, hki]; exact hk1)]
            · have h3 := hput H' d' _ B h2 kp fun z m => hn z (by
                rcases List.mem_append.mp m with m | m <;> simp [m])
              have h4 : H' a = some (.dK (ks.zip vs)) := kp a _ hH (.inl (hn a (by simp)))
              have h5 := Rep.dK h4 hl h3
              simpa using h5
        · cases i with
          | zero => cases hk; exact absurd rfl hq'.1
          | succ i =>
            have hk : ((ks.map tkeyD).zip ds)[i]? = some (q', x) := hk
            obtain ⟨hk1, hk2⟩ := zip_get hk
            obtain ⟨u, F1, F2, F3, hu, ru, hG, hput⟩ := rs.pick hk2
            obtain ⟨w, G1, G2, G3, hw, rw', hF2, hput2⟩ := Rep.place ru hq'.2
            subst hG hF2
            rw [List.getElem?_map] at hk1
            cases hki : ks[i]? with
            | none => rw [hki] at hk1; cases hk1
            | some ky =>
              rw [hki] at hk1
              refine ⟨w, a :: (F1 ++ G1), G2, G3 ++ F3, .dt hH (List.getElem?_zip_eq_some.mpr ⟨hki, hu⟩) hw, rw', by simp, fun H' e' F' B r' kp hn => ?_⟩
              obtain ⟨d', h1, h2⟩ := hput2 H' e' F' B r' kp fun z m => hn z (by
                rcases List.mem_append.mp m with m | m <;> simp [m])
              refine ⟨.dict ((.none, .none) :: (ks.map tkeyD).zip (ds.set i d')), ?_, ?_⟩
              · rw [putP, List.getElem?_cons_succ, hk]; dsimp only; rw [h1]
                show some (PyData.dict _) = _
                rw [List.set_cons_succ, zip_set (by rw [List.getElem?_map, hki]; exact hk1)]
              · have h3 := hput H' d' _ B h2 kp fun z m => hn z (by
                  rcases List.mem_append.mp m with m | m <;> simp [m])
                have h4 : H' a = some (.dT (ks.zip vs)) := kp a _ hH (.inl (hn a (by simp)))
                have h5 := Rep.dT h4 hl h3
                simpa using h5
/-- a walk stays where its objects stay -/
theorem Rep.walkKeep : ∀ {p : List Sel} {v w : V} {d e : D} {F : List Addr} {H' : Hp} {B : Addr → Prop}, Rep K H v d F → getP d p = some e → WalkP H v p w → Keep B H H' → (∀ a ∈ F, ¬ B a) → WalkP H' v p w := fun {p v w d e F H' B} r h hw kp hn => by
  have r' := r.keep kp hn
  obtain ⟨w1, _, _, _, h1, _⟩ := r.place h
  obtain ⟨w2, _, _, _, h2, _⟩ := r'.place h
  have key : ∀ {v w : V} {p : List Sel} {d e : D} {F : List Addr}, WalkP H v p w → Rep K H v d F → getP d p = some e → (∀ a ∈ F, ¬ B a) → WalkP H' v p w := fun {v w p d e F} hw => by
    induction hw generalizing d e F with
    | nil => intro _ _ _; exact .nil
    | @ix a vs k u w p h1 h2 _ ih =>
      intro r h hn
      cases d <;> first | (cases h; done) | skip
      rename_i ds
      rw [getP] at h
      obtain ⟨a', vs', G, e1, hH, rs, rfl⟩ := r.iLst
      cases e1
      rw [h1] at hH; cases hH
      cases hk : ds[k]? with
      | none => rw [hk] at h; cases h
      | some x =>
        rw [hk] at h
        obtain ⟨u', F1, F2, F3, hu, ru, hG, _⟩ := rs.pick hk
        rw [h2] at hu; cases hu
        subst hG
        exact .ix (kp _ _ h1 (.inl (hn _ (by simp)))) h2 (ih ru h fun z m => hn z (by simp [m]))
    | @dk a kvs i k u w p h1 h2 _ ih =>
      intro r h hn
      cases d <;> first | (cases h; done) | skip
      rename_i kds
      rw [getP] at h
      obtain ⟨a', G, e1, rfl, ⟨ks, vs, ds, hH, hl, rs, rfl⟩ | ⟨ks, vs, ds, hH, hl, rs, rfl⟩⟩ := r.iDict
      · cases e1
        rw [h1] at hH; cases hH
        obtain ⟨g1, g2⟩ := zip_get h2
        cases hk : ((ks.map keyD).zip ds)[i]? with
        | none => rw [hk] at h; cases h
        | some x =>
          rw [hk] at h
          obtain ⟨q', x⟩ := x
          have hq' : getP x p = some e := by
            cases q' <;> first | (cases h; done) | exact h
          obtain ⟨_, hk2⟩ := zip_get hk
          obtain ⟨u', F1, F2, F3, hu, ru, hG, _⟩ := rs.pick hk2
          rw [g2] at hu; cases hu
          subst hG
          exact .dk (kp _ _ h1 (.inl (hn _ (by simp)))) h2 (ih ru hq' fun z m => hn z (by simp [m]))
      · cases e1
        rw [h1] at hH; cases hH
    | @dt a kvs i k u w p h1 h2 _ ih =>
      intro r h hn
      cases d <;> first | (cases h; done) | skip
      rename_i kds
      rw [getP] at h
      obtain ⟨a', G, e1, rfl, ⟨ks, vs, ds, hH, hl, rs, rfl⟩ | ⟨ks, vs, ds, hH, hl, rs, rfl⟩⟩ := r.iDict
      · cases e1
        rw [h1] at hH; cases hH
      · cases e1
        rw [h1] at hH; cases hH
        obtain ⟨g1, g2⟩ := zip_get h2
        rw [List.getElem?_cons_succ] at h
        cases hk : ((ks.map tkeyD).zip ds)[i]? with
        | none => rw [hk] at h; cases h
        | some x =>
          rw [hk] at h
          obtain ⟨q', x⟩ := x
          have hq' : getP x p = some e := by
            cases q' <;> first | (cases h; done) | exact h
          obtain ⟨_, hk2⟩ := zip_get hk
          obtain ⟨u', F1, F2, F3, hu, ru, hG, _⟩ := rs.pick hk2
          rw [g2] at hu; cases hu
          subst hG
          exact .dt (kp _ _ h1 (.inl (hn _ (by simp)))) h2 (ih ru hq' fun z m => hn z (by simp [m]))
  exact key hw r h hn
end DL
set_option maxHeartbeats 4000000
/-! DL25: the judgement of places; keys; append to an inner list; setdefault. -/
namespace DL
open PySem PySem.Spec PyProof.Rows L2
/-- a slot's data is put in order anew -/
theorem Post.slot {K : PySem.W.Frag} {M : List Nat} {H H1 H2 : Hp} {δ δ1 : DEnv} {Fs Fs1 : FT} {σ1 : L2.St} {G F' : List Addr} {j : Nat} {v : V} {d' : D} {B : Addr → Prop} (p : Post K M H δ Fs σ1 H1 δ1 Fs1 G) (hj : j < δ1.length) (hv : σ1[j]? = some (some v))
    (r : Rep K H2 v d' F') (kp : Keep B H1 H2) (hB : ∀ a, B a → a ∈ Fs1 j ∨ a ∈ G) (sub : ∀ x ∈ F', x ∈ Fs1 j ∨ x ∈ G ∨ H1 x = none) (nd : F'.Nodup) : Post K (M ++ [j]) H δ Fs σ1 H2 (δ1.set j (some d')) (setF Fs1 j F') [] := by
  have sj : setF Fs1 j F' j = F' := if_pos rfl
  have so : ∀ {i}, i ≠ j → setF Fs1 j F' i = Fs1 i := fun n => if_neg n
  have back : ∀ x, x ∈ Fs1 j ∨ x ∈ G ∨ H1 x = none → InM (M ++ [j]) Fs x ∨ H x = none := fun x m => by
    rcases m with m | m | m
    · by_cases hm : j ∈ M
      · exact (p.sub j hm x m).imp (fun z => z.mono fun i m => List.mem_append_left _ m) id
      · rw [(p.same j hm).1] at m
        exact .inl ⟨j, List.mem_append_right _ (by simp), m⟩
    · exact (p.subr x m).imp (fun z => z.mono fun i m => List.mem_append_left _ m) id
    · cases e : H x with
      | none => exact .inr rfl
      | some o =>
        by_cases hb : InM M Fs x
        · exact .inl (hb.mono fun i m => List.mem_append_left _ m)
        · rw [p.keep x o e (.inl hb)] at m; cases m
  have noI : ∀ i, i ≠ j → ∀ x ∈ Fs1 i, ¬ (x ∈ Fs1 j ∨ x ∈ G ∨ H1 x = none) := fun i n x m h => by
    rcases h with h | h | h
    · exact p.sep.dis i j n x m h
    · exact p.sep.dir i x h m
    · obtain ⟨o, e, _⟩ := p.env.trk m
      rw [e] at h; cases h
  have hB' : ∀ i, i ≠ j → ∀ a ∈ Fs1 i, ¬ B a := fun i n a m b => noI i n a m ((hB a b).imp id .inl)
  refine ⟨⟨?_, fun i d e => ?_, fun i h => ?_⟩, ⟨List.nodup_nil, fun i => ?_, fun i l n x m m' => ?_, fun i x m => (nomatch m)⟩, fun x m => (nomatch m), fun i hi x m => ?_, fun x m => (nomatch m), fun x u e c => ?_, fun i n => ?_⟩
  · rw [List.length_set]; exact p.env.len
  · by_cases hij : i = j
    · subst hij
      rw [List.getElem?_set_self hj] at e
      cases e
      exact ⟨v, hv, by rw [sj]; exact r⟩
    · rw [List.getElem?_set_ne (Ne.symm hij)] at e
      obtain ⟨u, hu, ru⟩ := p.env.at i d e
      exact ⟨u, hu, by rw [so hij]; exact ru.keep kp (hB' i hij)⟩
  · by_cases hij : i = j
    · subst hij
      exact absurd (List.getElem?_set_self hj) (h d')
    · rw [so hij]
      exact p.env.no i fun d e => h d (by rw [List.getElem?_set_ne (Ne.symm hij)]; exact e)
  · by_cases hij : i = j
    · subst hij; rw [sj]; exact nd
    · rw [so hij]; exact p.sep.nds i
  · by_cases hij : i = j
    · subst hij
      rw [sj] at m
      rw [so (Ne.symm n)] at m'
      exact noI l (Ne.symm n) x m' (sub x m)
    · rw [so hij] at m
      by_cases hlj : l = j
      · subst hlj
        rw [sj] at m'
        exact noI i hij x m (sub x m')
      · rw [so hlj] at m'
        exact p.sep.dis i l n x m m'
  · by_cases hij : i = j
    · subst hij
      rw [sj] at m
      exact back x (sub x m)
    · rw [so hij] at m
      have hM : i ∈ M := by
        rcases List.mem_append.mp hi with h | h
        · exact h
        · exact absurd (by simpa using h) hij
      exact (p.sub i hM x m).imp (fun z => z.mono fun i m => List.mem_append_left _ m) id
  · have e1 := p.keep x u e (c.imp (fun n z => n (z.mono fun i m => List.mem_append_left _ m)) id)
    refine kp x u e1 (c.imp (fun n b => ?_) id)
    rcases back x ((hB x b).imp id .inl) with z | z
    · exact n z
    · rw [e] at z; cases z
  · have n1 : i ∉ M := fun z => n (List.mem_append_left _ z)
    have n2 : i ≠ j := fun z => n (List.mem_append_right _ (by simp [z]))
    exact ⟨(so n2).trans (p.same i n1).1, by rw [List.getElem?_set_ne (Ne.symm n2)]; exact (p.same i n1).2⟩
/-! ### places -/
def DP (S : Sig) (e : Expr) (j : Nat) (M : List Nat) (P : EM (List Sel)) : Prop :=
  ∀ (σ : L2.St) (H : Hp) (δ : DEnv) (Fs : FT) (Q : VK) (r : Out (List Sel)), EnvR S.K H σ δ Fs → Sep Fs [] → P δ = some r →
    (match r with
      | .ok p δ' => ∀ v w d e H' Fs', Post S.K M H δ Fs σ H' δ' Fs' [] → σ[j]? = some (some v) → δ'[j]? = some (some d) → getP d p = some e → WalkP H' v p w → Q w H'
      | .ex x => XOk S H Fs x) → tB S e σ H Q
def cP0 (j : Nat) : EM (List Sel) := fun δ => match δ[j]? with
  | some (some _) => some (.ok [] δ)
  | _ => none
/-! ### keys -/
def KeyR (H : Hp) (y : V) (d : D) : Prop := (∃ k, y = kV k ∧ d = keyD k) ∨ ∃ (ks : List Key) (b : Addr), y = .ref b ∧ H b = some (.tup (ks.map kV)) ∧ d = tkeyD ks
theorem KeyR.keep {H H' : Hp} {y : V} {d : D} {B : Addr → Prop} (h : KeyR H y d) (kp : Keep B H H') : KeyR H' y d := by
  rcases h with h | ⟨ks, b, e, hb, ed⟩
  · exact .inl h
  · exact .inr ⟨ks, b, e, kp b _ hb (.inr rfl), ed⟩
def DKy (S : Sig) (e : Expr) (M : List Nat) (f : EM D) : Prop :=
  ∀ (σ : L2.St) (H : Hp) (δ : DEnv) (Fs : FT) (Q : VK) (r : Out D), EnvR S.K H σ δ Fs → Sep Fs [] → f δ = some r →
    (match r with
      | .ok d δ' => ∀ v H' Fs', Post S.K M H δ Fs σ H' δ' Fs' [] → KeyR H' v d → Q v H'
      | .ex x => XOk S H Fs x) → tB S e σ H Q
def cKy (f : EM D) : EM D := EM.bind f fun d δ => if (keyOf d).isSome = true then some (.ok d δ) else none
def keysOf : List D → Option (List Key)
  | [] => some []
  | d :: r => match keyOf d, keysOf r with
    | some k, some ks => some (k :: ks)
    | _, _ => none
def cKyT (f : EM (List D)) : EM D := EM.bind f fun ds δ => if (keysOf ds).isSome = true ∧ ds.length ≤ 1000 then some (.ok (.tuple ds) δ) else none
def tkOf : D → Option (List Key)
  | .tuple ds => keysOf ds
  | _ => none
theorem keysOf_map : ∀ ks : List Key, keysOf (ks.map keyD) = some ks
  | [] => rfl
  | k :: r => by
    show (match keyOf (keyD k), keysOf (r.map keyD) with | some k, some ks => some (k :: ks) | _, _ => none) = _
    rw [keyOf_keyD, keysOf_map r]
theorem keysOf_some : ∀ {ds : List D} {ks : List Key}, keysOf ds = some ks → ds = ks.map keyD
  | [], ks, h => by cases h; rfl
  | d :: r, ks, h => by
    unfold keysOf at h
    cases h1 : keyOf d with
    | none => rw [h1] at h; cases h
    | some k =>
      cases h2 : keysOf r with
      | none => rw [h1, h2] at h; cases h
      | some ks' =>
        rw [h1, h2] at h
        cases h
        rw [keyOf_some h1, keysOf_some h2]; rfl
theorem tkOf_tk (ks : List Key) : tkOf (tkeyD ks) = some ks := keysOf_map ks
theorem dky_own {S : Sig} {e : Expr} {M : List Nat} {f : EM D} (h : DE S e .own M f) : DKy S e M (cKy f) := fun σ H δ Fs Q r E s hf k => by
  rcases bind_some hf with ⟨d, δ1, h1, h2⟩ | ⟨x, h1, rfl⟩
  · cases hk : keyOf d with
    | none => rw [hk] at h2; cases h2
    | some ky =>
      rw [hk] at h2
      cases h2
      have := keyOf_some hk
      subst this
      exact h σ H δ Fs _ _ E s h1 fun v H1 Fs1 Fr p o => k v H1 Fs1 p.dropR (.inl ⟨ky, key_V o, rfl⟩)
  · exact h σ H δ Fs _ _ E s h1 k
theorem keys_V {K : PySem.W.Frag} {H : Hp} : ∀ {vs : List V} {ks : List Key} {F : List Addr}, Reps K H vs (ks.map keyD) F → vs = ks.map kV
  | [], [], _, _ => rfl
  | [], _ :: _, _, r => by cases r
  | _ :: _, [], _, r => by cases r
  | v :: vs, k :: ks, _, r => by
    rw [List.map_cons] at r
    cases r with
    | cons r t => rw [key_V r, keys_V t]; rfl
theorem dky_tup {S : Sig} {es : List Expr} {κs : List Kd} {M : List Nat} {f : EM (List D)} {n : Nat} {pos : Pos} (hA : DA S es κs M f) (ho : κs.all isOwn = true) (hp : Plain es) : DKy S (.Tuple es n pos) M (cKyT f) := fun σ H δ Fs Q r E s hf k => by
  refine ⟨_, fun X hX => pe_tup (pa_tB hX hp), ?_⟩
  show tBA S es σ H fun xs H1 => xs.length ≤ sizeLine ∧ ∀ p, H1 p = none → Q (.ref p) (upd H1 p (.tup xs))
  rcases bind_some hf with ⟨ds, δ1, h1, h2⟩ | ⟨x, h1, rfl⟩
  · by_cases hl : (keysOf ds).isSome = true ∧ ds.length ≤ 1000
    · rw [if_pos hl] at h2
      cases h2
      obtain ⟨ks, hk⟩ := Option.isSome_iff_exists.mp hl.1
      have e := keysOf_some hk
      subst e
      refine hA σ H δ Fs _ _ E s h1 fun vs H1 Fs1 Frs p o => ?_
      have rs := o.owns (owns_of ho)
      have hl2 := hl.2
      refine ⟨by rw [rs.length]; exact lim_line (by omega), fun q hq => k _ _ Fs1 (p.newT hq).dropR (.inr ⟨ks, q, rfl, by rw [upd_same, keys_V rs], rfl⟩)⟩
    · rw [if_neg hl] at h2; cases h2
  · exact hA σ H δ Fs _ _ E s h1 k
/-! ### a key's position -/
def kmatch (e q : D) : Bool := match keyOf e with
  | some k => decide (keyOf q = some k)
  | none => match tkOf e, tkOf q with
    | some ks, some js => decide (js = ks)
    | _, _ => false
def posD (kvs : List (D × D)) (e : D) : Option Nat := kvs.findIdx? fun kv => kmatch e kv.1
theorem kmatch_key (k j : Key) : kmatch (keyD k) (keyD j) = decide (j = k) := by
  unfold kmatch
  rw [keyOf_keyD, keyOf_keyD]
  by_cases h : j = k <;> simp [h]
theorem kmatch_tk (k j : List Key) : kmatch (tkeyD k) (tkeyD j) = decide (j = k) := by
  unfold kmatch
  rw [keyOf_tk, tkOf_tk, tkOf_tk]
theorem kmatch_kt (k : Key) (j : List Key) : kmatch (keyD k) (tkeyD j) = false := by
  unfold kmatch
  rw [keyOf_keyD, keyOf_tk]
  exact decide_eq_false fun h => nomatch h
theorem kmatch_tk' (k : List Key) (j : Key) : kmatch (tkeyD k) (keyD j) = false := by
  unfold kmatch
  rw [keyOf_tk, tkOf_tk]
  cases j <;> rfl
theorem pos_zip {κ : Type} [DecidableEq κ] {g : κ → D} {m : D → Bool} {k : κ} (hm : ∀ k', m (g k') = decide (k' = k)) : ∀ {ks : List κ} {vs : List V} {ds : List D} {i : Nat}, ks.length = vs.length → ks.length = ds.length → ((ks.map g).zip ds).findIdx? (fun kv => m kv.1) = some i →
    ∃ v d, vs[i]? = some v ∧ ds[i]? = some d ∧ ks[i]? = some k ∧ valV (ks.zip vs) k = some v
  | [], vs, ds, i, _, _, h => by cases h
  | a :: ks, [], ds, i, h, _, _ => by cases h
  | a :: ks, v :: vs, [], i, _, h, _ => by cases h
  | a :: ks, v :: vs, d :: ds, i, h1, h2, h => by
    have h : ((g a, d) :: (ks.map g).zip ds).findIdx? (fun kv => m kv.1) = some i := h
    rw [List.findIdx?_cons, hm] at h
    by_cases e : a = k
    · rw [decide_eq_true e] at h
      cases h
      exact ⟨v, d, rfl, rfl, by rw [e]; rfl, valV_pos e⟩
    · rw [decide_eq_false e] at h
      cases q : ((ks.map g).zip ds).findIdx? (fun kv => m kv.1) with
      | none => rw [q] at h; cases h
      | some i' =>
        rw [q] at h
        cases h
        obtain ⟨v', d', g1, g2, g3, g4⟩ := pos_zip hm (Nat.succ.inj h1) (Nat.succ.inj h2) q
        exact ⟨v', d', g1, g2, g3, by rw [show (a :: ks).zip (v :: vs) = (a, v) :: ks.zip vs from rfl, valV_neg e]; exact g4⟩
theorem pos_none {κ : Type} [DecidableEq κ] {g : κ → D} {m : D → Bool} {k : κ} (hm : ∀ k', m (g k') = decide (k' = k)) : ∀ {ks : List κ} {vs : List V} {ds : List D}, ks.length = vs.length → ks.length = ds.length → ((ks.map g).zip ds).findIdx? (fun kv => m kv.1) = none → valV (ks.zip vs) k = none
  | [], vs, ds, _, _, h => rfl
  | a :: ks, [], ds, h, _, _ => by cases h
  | a :: ks, v :: vs, [], _, h, _ => by cases h
  | a :: ks, v :: vs, d :: ds, h1, h2, h => by
    have h : ((g a, d) :: (ks.map g).zip ds).findIdx? (fun kv => m kv.1) = none := h
    rw [List.findIdx?_cons, hm] at h
    by_cases e : a = k
    · rw [decide_eq_true e] at h; cases h
    · rw [decide_eq_false e] at h
      cases q : ((ks.map g).zip ds).findIdx? (fun kv => m kv.1) with
      | none => rw [show (a :: ks).zip (v :: vs) = (a, v) :: ks.zip vs from rfl, valV_neg e]; exact pos_none hm (Nat.succ.inj h1) (Nat.succ.inj h2) q
      | some i' => rw [q] at h; cases h
def isT (kvs : List (D × D)) : Bool := match kvs with
  | (.none, _) :: _ => true
  | _ => false
def keyT (e : D) : Bool := match e with
  | .tuple _ => true
  | _ => false
theorem isT_zip {ks : List Key} {ds : List D} : isT ((ks.map keyD).zip ds) = false := by
  cases ks with
  | nil => rfl
  | cons k ks => cases ds with
    | nil => rfl
    | cons d ds => cases k <;> rfl
variable {K : PySem.W.Frag} {H : Hp}
/-- d[y], the key there -/
theorem dget_of {a : Addr} {kvs : List (D × D)} {F : List Addr} {y : V} {e : D} {i : Nat} (r : Rep K H (.ref a) (.dict kvs) F) (hy : KeyR H y e) (hp : posD kvs e = some i) :
    ∃ w q x, DGet H a y (some w) ∧ kvs[i]? = some (q, x) ∧ getP (.dict kvs) [.dv i] = some x ∧ WalkP H (.ref a) [.dv i] w := by
  obtain ⟨a', G, e1, _, ⟨ks, vs, ds, hH, hl, rs, rfl⟩ | ⟨ks, vs, ds, hH, hl, rs, rfl⟩⟩ := r.iDict
  · cases e1
    have hl2 : ks.length = ds.length := hl.trans rs.length
    rcases hy with ⟨k, rfl, rfl⟩ | ⟨js, b, rfl, hb, rfl⟩
    · obtain ⟨v, d, g1, g2, g3, g4⟩ := pos_zip (kmatch_key k) hl hl2 hp
      have hz : ((ks.map keyD).zip ds)[i]? = some (keyD k, d) := List.getElem?_zip_eq_some.mpr ⟨by rw [List.getElem?_map, g3]; rfl, g2⟩
      refine ⟨v, keyD k, d, ?_, hz, ?_, .dk hH (List.getElem?_zip_eq_some.mpr ⟨g3, g1⟩) .nil⟩
      · rw [← g4]; exact DGet.k hH
      · rw [getP, hz]
        cases k <;> rfl
    · exfalso
      have := List.findIdx?_isSome (xs := (ks.map keyD).zip ds) (p := fun kv => kmatch (tkeyD js) kv.1)
      unfold posD at hp
      rw [hp] at this
      obtain ⟨x, m, hx⟩ := List.any_eq_true.mp this.symm
      obtain ⟨k', _, e'⟩ := List.mem_map.mp (List.of_mem_zip m).1
      rw [← e', kmatch_tk'] at hx
      cases hx
  · cases e1
    have hl2 : ks.length = ds.length := hl.trans rs.length
    unfold posD at hp
    rcases hy with ⟨k, rfl, rfl⟩ | ⟨js, b, rfl, hb, rfl⟩
    · exfalso
      have := List.findIdx?_isSome (xs := (PyData.none, PyData.none) :: (ks.map tkeyD).zip ds) (p := fun kv => kmatch (keyD k) kv.1)
      rw [hp] at this
      obtain ⟨x, m, hx⟩ := List.any_eq_true.mp this.symm
      rcases List.mem_cons.mp m with rfl | m
      · have : kmatch (keyD k) .none = false := by unfold kmatch; rw [keyOf_keyD]; exact decide_eq_false fun h => nomatch h
        rw [this] at hx; cases hx
      · obtain ⟨k', _, e'⟩ := List.mem_map.mp (List.of_mem_zip m).1
        rw [← e', kmatch_kt] at hx
        cases hx
    · rw [List.findIdx?_cons] at hp
      have h0 : kmatch (tkeyD js) .none = false := by unfold kmatch; rw [keyOf_tk, tkOf_tk]; rfl
      rw [h0] at hp
      cases q : ((ks.map tkeyD).zip ds).findIdx? (fun kv => kmatch (tkeyD js) kv.1) with
      | none => rw [q] at hp; cases hp
      | some i' =>
        rw [q] at hp
        cases hp
        obtain ⟨v, d, g1, g2, g3, g4⟩ := pos_zip (kmatch_tk js) hl hl2 q
        have hz : ((ks.map tkeyD).zip ds)[i']? = some (tkeyD js, d) := List.getElem?_zip_eq_some.mpr ⟨by rw [List.getElem?_map, g3]; rfl, g2⟩
        refine ⟨v, tkeyD js, d, ?_, by rw [List.getElem?_cons_succ]; exact hz, ?_, .dt hH (List.getElem?_zip_eq_some.mpr ⟨g3, g1⟩) .nil⟩
        · rw [← g4]; exact DGet.t hH hb
        · rw [getP, List.getElem?_cons_succ, hz]; rfl
/-- the key not there -/
theorem dget_none {a : Addr} {kvs : List (D × D)} {F : List Addr} {y : V} {e : D} (r : Rep K H (.ref a) (.dict kvs) F) (hy : KeyR H y e) (hp : posD kvs e = none) (hT : isT kvs = keyT e) : DGet H a y none := by
  obtain ⟨a', G, e1, _, ⟨ks, vs, ds, hH, hl, rs, rfl⟩ | ⟨ks, vs, ds, hH, hl, rs, rfl⟩⟩ := r.iDict
  · cases e1
    have hl2 : ks.length = ds.length := hl.trans rs.length
    rcases hy with ⟨k, rfl, rfl⟩ | ⟨js, b, rfl, hb, rfl⟩
    · have := pos_none (kmatch_key k) hl hl2 hp
      rw [← this]; exact DGet.k hH
    · rw [isT_zip] at hT; cases hT
  · cases e1
    have hl2 : ks.length = ds.length := hl.trans rs.length
    rcases hy with ⟨k, rfl, rfl⟩ | ⟨js, b, rfl, hb, rfl⟩
    · cases k <;> cases hT
    · unfold posD at hp
      rw [List.findIdx?_cons] at hp
      have h0 : kmatch (tkeyD js) .none = false := by unfold kmatch; rw [keyOf_tk, tkOf_tk]; rfl
      rw [h0] at hp
      cases q : ((ks.map tkeyD).zip ds).findIdx? (fun kv => kmatch (tkeyD js) kv.1) with
      | some i' => rw [q] at hp; cases hp
      | none =>
        have := pos_none (kmatch_tk js) hl hl2 q
        rw [← this]; exact DGet.t hH hb
end DL
set_option maxHeartbeats 4000000
/-! DL26: rules of places: names, subscripts, reading, append, setdefault. -/
namespace DL
open PySem PySem.Spec PyProof.Rows L2
theorem dp_name {S : Sig} {x : Str} {j : Nat} {pos : Pos} (n : NmS S j x) : DP S (.Name x pos) j [] (cP0 j) := fun σ H δ Fs Q r E s hf k => by
  refine ⟨tVar j, fun X hX => n.pe hX, ?_⟩
  unfold cP0 at hf
  cases e : δ[j]? with
  | none => rw [e] at hf; cases hf
  | some o =>
    cases o with
    | none => rw [e] at hf; cases hf
    | some d =>
      rw [e] at hf
      cases hf
      obtain ⟨v, hv, rv⟩ := E.at j d e
      exact ⟨v, hv, k v v d d H Fs (Post.refl E s) hv e rfl .nil⟩
/-- the step that an index or a key takes -/
def selOf : D → D → Option Sel
  | .list ds, .int n => (ixN ds.length n).map .ix
  | .dict kvs, e => (posD kvs e).map .dv
  | _, _ => none
def stepP (δ : DEnv) (j : Nat) (p : List Sel) (i : D) : Option Sel := match (δ[j]?).join with
  | some d => match getP d p with
    | some d2 => match selOf d2 i with
      | some s => if (getP d (p ++ [s])).isSome = true then some s else none
      | none => none
    | none => none
  | none => none
def cPIx (j : Nat) (P : EM (List Sel)) (fi : EM D) : EM (List Sel) := EM.bind P fun p => EM.bind fi fun i δ => match stepP δ j p i with
  | some s => some (.ok (p ++ [s]) δ)
  | none => none
theorem join_some {δ : DEnv} {j : Nat} {d : D} (h : (δ[j]?).join = some d) : δ[j]? = some (some d) := by
  cases e : δ[j]? with
  | none => rw [e] at h; cases h
  | some o => rw [e] at h; have h : o = some d := h; rw [h]
/-- a place stays when other slots are worked at -/
theorem place_keep {K : PySem.W.Frag} {M : List Nat} {H1 H2 : Hp} {σ : L2.St} {δ1 δ2 : DEnv} {Fs1 Fs2 : FT} {G : List Addr} {j : Nat} {v w : V} {d e : D} {p : List Sel} (p1 : EnvR K H1 σ δ1 Fs1) (s1 : Sep Fs1 []) (q : Post K M H1 δ1 Fs1 σ H2 δ2 Fs2 G) (hj : j ∉ M)
    (hv : σ[j]? = some (some v)) (hd : δ1[j]? = some (some d)) (hg : getP d p = some e) (hw : WalkP H1 v p w) : δ2[j]? = some (some d) ∧ WalkP H2 v p w := by
  refine ⟨by rw [(q.same j hj).2]; exact hd, ?_⟩
  obtain ⟨v', hv', rv⟩ := p1.at j d hd
  rw [hv] at hv'
  cases hv'
  exact rv.walkKeep hg hw q.keep fun a m ⟨i, hi, z⟩ => s1.dis i j (fun e => hj (e ▸ hi)) a z m
theorem dp_ix {S : Sig} {X i : Expr} {j : Nat} {pos : Pos} {M1 M2 : List Nat} {P : EM (List Sel)} {fi : EM D} (hP : DP S X j M1 P) (hi : DKy S i M2 fi) (hix : PlainIx i) (hns : NoSl i) (hj : j ∉ M2) : DP S (.Subscript X i pos) j (M1 ++ M2) (cPIx j P fi) := fun σ H δ Fs Q r E s hf k => by
  have tL : ∀ (h : tB S X σ H fun o H1 => tB S i σ H1 fun y H2 => rIxL S.K o y H2 Q), tB S (.Subscript X i pos) σ H Q := fun h => ⟨_, fun Y hY => pe_ix (r := rIxL S.K) (by rw [← hY.K]; exact L2.ix_list) (pe_tB hY) (pe_tB hY) hix, h⟩
  have tDc : ∀ (h : tB S X σ H fun x H1 => tB S i σ H1 fun y H2 => ∃ a v, x = .ref a ∧ DGet H2 a y (some v) ∧ Q v H2), tB S (.Subscript X i pos) σ H Q := fun h => ⟨_, fun Y hY => pe_dget (by have := hY.u65; omega) (pe_tB hY) (pe_tB hY) hns, h⟩
  rcases bind_some hf with ⟨p, δ1, h1, h2⟩ | ⟨x, h1, rfl⟩
  rotate_left
  · exact tL (hP σ H δ Fs _ _ E s h1 k)
  rcases bind_some h2 with ⟨iv, δ2, h3, h4⟩ | ⟨x, h3, rfl⟩
  rotate_left
  · exact tL (hP σ H δ Fs _ _ E s h1 fun v w d e H1 Fs1 p1 hv hd hg hw => hi σ H1 δ1 Fs1 _ _ p1.env p1.sep h3 (XOk.post k p1))
  cases q : stepP δ2 j p iv with
  | none => rw [q] at h4; cases h4
  | some sl =>
    rw [q] at h4
    cases h4
    unfold stepP at q
    cases q0 : (δ2[j]?).join with
    | none => rw [q0] at q; cases q
    | some d0 =>
      rw [q0] at q
      dsimp only at q
      cases q1 : getP d0 p with
      | none => rw [q1] at q; cases q
      | some d2 =>
        rw [q1] at q
        dsimp only at q
        cases q2 : selOf d2 iv with
        | none => rw [q2] at q; cases q
        | some s2 =>
          rw [q2] at q
          dsimp only at q
          by_cases q3 : (getP d0 (p ++ [s2])).isSome = true
          rotate_left
          · rw [if_neg q3] at q; cases q
          rw [if_pos q3] at q
          cases q
          obtain ⟨e3, q3⟩ := Option.isSome_iff_exists.mp q3
          have hd0 := join_some q0
          unfold selOf at q2
          split at q2
          · rename_i ds n
            cases q4 : ixN ds.length n with
            | none => rw [q4] at q2; cases q2
            | some kk =>
              rw [q4] at q2
              cases q2
              refine tL (hP σ H δ Fs _ _ E s h1 fun v w d e H1 Fs1 p1 hv hd hg hw => hi σ H1 δ1 Fs1 _ _ p1.env p1.sep h3 fun y H2 Fs2 p2 ky => ?_)
              obtain ⟨hd', hw'⟩ := place_keep p1.env p1.sep p2 hj hv hd hg hw
              rw [hd0] at hd'
              cases hd'
              obtain ⟨v', hv', rv⟩ := p2.env.at j _ hd0
              rw [hv] at hv'
              cases hv'
              obtain ⟨w', F1, F2, F3, hw2, rw', _, _⟩ := rv.place q1
              have ew := hw'.det hw2
              subst ew
              obtain ⟨a, vs, G, rfl, hH, rs, _⟩ := rw'.iLst
              have ey : y = .int n := by
                rcases ky with ⟨kk, e1, e2⟩ | ⟨ks, b, _, _, e2⟩
                · cases kk with
                  | inl i => cases e2; exact e1
                  | inr z => cases e2
                · cases e2
              subst ey
              have hk : ∃ x, ds[kk]? = some x := by
                unfold ixN at q4
                split at q4
                · split at q4
                  · cases q4
                    have : n.toNat < ds.length := by omega
                    exact ⟨_, List.getElem?_eq_getElem this⟩
                  · cases q4
                · split at q4
                  · cases q4
                    have : (n + ds.length).toNat < ds.length := by omega
                    exact ⟨_, List.getElem?_eq_getElem this⟩
                  · cases q4
              obtain ⟨x, hk⟩ := hk
              obtain ⟨u, _, _, _, hu, _⟩ := rs.pick hk
              refine ⟨a, vs, n, u, rfl, rfl, sqL_of hH, by unfold atI; rw [rs.length, q4]; exact hu, ?_⟩
              have pp := p1.comp p2
              exact k v u d0 e3 H2 Fs2 pp hv hd0 q3 (hw'.trans (.ix hH hu .nil))
          · rename_i kvs
            cases q4 : posD kvs iv with
            | none => rw [q4] at q2; cases q2
            | some kk =>
              rw [q4] at q2
              cases q2
              refine tDc (hP σ H δ Fs _ _ E s h1 fun v w d e H1 Fs1 p1 hv hd hg hw => hi σ H1 δ1 Fs1 _ _ p1.env p1.sep h3 fun y H2 Fs2 p2 ky => ?_)
              obtain ⟨hd', hw'⟩ := place_keep p1.env p1.sep p2 hj hv hd hg hw
              rw [hd0] at hd'
              cases hd'
              obtain ⟨v', hv', rv⟩ := p2.env.at j _ hd0
              rw [hv] at hv'
              cases hv'
              obtain ⟨w', F1, F2, F3, hw2, rw', _, _⟩ := rv.place q1
              have ew := hw'.det hw2
              subst ew
              obtain ⟨a, G, rfl, _, _⟩ := rw'.iDict
              obtain ⟨u, _, _, g1, _, _, g4⟩ := dget_of rw' ky q4
              have pp := p1.comp p2
              exact ⟨a, u, rfl, g1, k v u d0 e3 H2 Fs2 pp hv hd0 q3 (hw'.trans g4)⟩
          · cases q2
/-- a place, to be read -/
def cPl (j : Nat) (P : EM (List Sel)) : EM D := EM.bind P fun p δ => match (δ[j]?).join with
  | some d => match getP d p with
    | some e => some (.ok e δ)
    | none => none
  | none => none
theorem de_pl {S : Sig} {e : Expr} {j : Nat} {M : List Nat} {P : EM (List Sel)} (h : DP S e j M P) : DE S e (.bor [j]) M (cPl j P) := fun σ H δ Fs Q r E s hf k => by
  rcases bind_some hf with ⟨p, δ1, h1, h2⟩ | ⟨x, h1, rfl⟩
  · cases q0 : (δ1[j]?).join with
    | none => rw [q0] at h2; cases h2
    | some d =>
      rw [q0] at h2
      dsimp only at h2
      cases q1 : getP d p with
      | none => rw [q1] at h2; cases h2
      | some x =>
        rw [q1] at h2
        cases h2
        refine h σ H δ Fs _ _ E s h1 fun v w d' e' H1 Fs1 p1 hv hd hg hw => ?_
        rw [join_some q0] at hd
        cases hd
        rw [q1] at hg
        cases hg
        obtain ⟨v', hv', rv⟩ := p1.env.at j d (join_some q0)
        rw [hv] at hv'
        cases hv'
        obtain ⟨w', F1, F2, F3, hw2, rw', hF, _⟩ := rv.place q1
        have ew := hw.det hw2
        subst ew
        exact k w H1 Fs1 [] p1 ⟨rfl, F2, rw', fun a m => ⟨j, by simp, by rw [hF]; simp [m]⟩⟩
  · exact h σ H δ Fs _ _ E s h1 k
/-! ### append to the list at a place -/
def appP (δ : DEnv) (j : Nat) (p : List Sel) (d : D) : Option DEnv := match (δ[j]?).join with
  | some d0 => match getP d0 p with
    | some (.list ds) => if ds.length < 1000000 then (putP d0 p (.list (ds ++ [d]))).map fun d' => δ.set j (some d') else none
    | _ => none
  | none => none
def isLst (δ : DEnv) (j : Nat) (p : List Sel) : Bool := match (δ[j]?).join with
  | some d0 => match getP d0 p with
    | some (.list _) => true
    | _ => false
  | none => false
def cAppP (j : Nat) (P : EM (List Sel)) (f : EM D) : EM Fl := EM.bind P fun p δ1 => if isLst δ1 j p = true then EM.bind f (fun d δ => match appP δ j p d with
  | some δ' => some (.ok .nx δ')
  | none => none) δ1 else none
theorem isLst_of {δ : DEnv} {j : Nat} {p : List Sel} {d e : D} (h : isLst δ j p = true) (hd : δ[j]? = some (some d)) (hg : getP d p = some e) : ∃ ds, e = .list ds := by
  unfold isLst at h
  rw [hd] at h
  have h : (match getP d p with | some (.list _) => true | _ => false) = true := h
  rw [hg] at h
  cases e <;> first | exact ⟨_, rfl⟩ | cases h
theorem ds_appP {S : Sig} {X e : Expr} {j : Nat} {M1 M2 : List Nat} {P : EM (List Sel)} {f : EM D} {apos cpos spos : Pos} (hP : DP S X j M1 P) (h : DE S e .own M2 f) (hp : Plain [e]) (hj : j ∉ M2)
    (hbase : ∀ env, attributeBase X "append" env (eval X env) = eval X env) (hline : (apos.endLine == cpos.line) = true) (hs : ∀ env, swapsWith (.Call (.Attribute X "append" apos) [e] [] cpos) none spos.line env = pure false)
    (hfew : ∀ env, ((backTo cpos (starEach [e] env)).all (fun x => !x.1) && (backToKw cpos (keywordEach [] env)).all (fun x => x.1.isSome) && decide ([e].length + ([] : List Keyword).length + (if ([] : List Keyword).isEmpty then 0 else 1) < 30)) = true) :
    DS S (.Expr (.Call (.Attribute X "append" apos) [e] [] cpos) spos) (M1 ++ (M2 ++ [j])) [] (cAppP j P f) := fun σ H δ Fs D r E s hf k => by
  refine ⟨_, fun Y hY => ps_expr (X := Y) (by
    have := pe_bm PySem.F.plainAttrs_list PySem.F.slot_list_append PySem.F.type_list_append (X := Y) mt_append (pe_tB (e := X) hY) (pa_tB hY hp) (hbase _) (hfew _) hline (hp.1 _) (plain_any hp.2)
    rw [hY.K] at this
    exact this) (hs _), ?_⟩
  show tB S X σ H fun x H1 => tyV S.K "list" x H1 ∧ tB S e σ H1 fun y H2 => rAppend x [y] H2 fun _ H3 => D.nx σ H3
  rcases bind_some hf with ⟨p, δ1, h1, h2⟩ | ⟨x, h1, rfl⟩
  rotate_left
  · exact hP σ H δ Fs _ _ E s h1 k
  by_cases hl0 : isLst δ1 j p = true
  rotate_left
  · rw [if_neg hl0] at h2; cases h2
  rw [if_pos hl0] at h2
  refine hP σ H δ Fs _ _ E s h1 fun v w d0 d2 H1 Fs1 p1 hv hd hg hw => ?_
  obtain ⟨v', hv', rv⟩ := p1.env.at j d0 hd
  rw [hv] at hv'
  cases hv'
  obtain ⟨ds, rfl⟩ := isLst_of hl0 hd hg
  obtain ⟨w', F1, F2, F3, hw2, rw', hF, _⟩ := rv.place hg
  have ew := hw.det hw2
  subst ew
  obtain ⟨a, vs, G, rfl, hH, rs, rfl⟩ := rw'.iLst
  refine ⟨.inl ⟨rfl, vs, sqL_of hH⟩, ?_⟩
  rcases bind_some h2 with ⟨dy, δ2, h3, h4⟩ | ⟨x, h3, rfl⟩
  rotate_left
  · exact h σ H1 δ1 Fs1 _ _ p1.env p1.sep h3 (XOk.post k p1)
  refine h σ H1 δ1 Fs1 _ _ p1.env p1.sep h3 fun y H2 Fs2 Fy p2 o => ?_
  obtain ⟨hd', hw'⟩ := place_keep p1.env p1.sep p2 hj hv hd hg hw
  have hFj : Fs2 j = Fs1 j := (p2.same j hj).1
  obtain ⟨v', hv', rv2⟩ := p2.env.at j d0 hd'
  rw [hv] at hv'
  cases hv'
  obtain ⟨w2, G1, G2, G3, hw3, rw2, hG, hput⟩ := rv2.place hg
  have ew := hw'.det hw3
  subst ew
  obtain ⟨a', vs', G', e1, hH2, rs2, rfl⟩ := rw2.iLst
  cases e1
  have hH2' : H2 a = some (.lst vs) := p2.keep a _ hH (.inl fun ⟨i, hi, z⟩ => p1.sep.dis i j (fun e => hj (e ▸ hi)) a z (by rw [hF]; simp))
  rw [hH2] at hH2'
  cases hH2'
  unfold appP at h4
  rw [hd'] at h4
  have h4 : (match (match getP d0 p with | some (.list ds) => if ds.length < 1000000 then (putP d0 p (.list (ds ++ [dy]))).map fun d' => δ2.set j (some d') else none | _ => none) with | some δ' => some (Out.ok Fl.nx δ') | none => none) = some r := h4
  rw [hg] at h4
  dsimp only at h4
  by_cases hl : ds.length < 1000000
  rotate_left
  · rw [if_neg hl] at h4; cases h4
  rw [if_pos hl] at h4
  have nds := p2.sep.nds j
  rw [hG] at nds
  have aj : ∀ z, z ∈ G1 ++ (a :: G' ++ G3) → z ∈ Fs2 j := fun z m => by rw [hG]; exact m
  have k2 : Keep (fun x => x = a) H2 (upd H2 a (.lst (vs ++ [y]))) := .upd rfl fun u e => by rw [hH2] at e; cases e; rfl
  have ndF := p2.sep.ndr
  have nFy : ∀ z ∈ Fy, z ∉ Fs2 j := fun z m => p2.sep.dir j z m
  have na : a ∉ G' ++ Fy := fun m => by
    rcases List.mem_append.mp m with m | m
    · have := (List.nodup_append.mp nds).2.1
      have := (List.nodup_append.mp this).1
      exact (List.nodup_cons.mp this).1 m
    · exact nFy a m (aj a (by simp))
  have r1 : Reps S.K H2 (vs ++ [y]) (ds ++ [dy]) (G' ++ Fy) := by
    have := rs2.append (.cons o .nil)
    rw [List.append_nil] at this
    exact this
  have r2 : Rep S.K (upd H2 a (.lst (vs ++ [y]))) (.ref a) (.list (ds ++ [dy])) (a :: (G' ++ Fy)) := .lst upd_same (r1.keep k2 fun x m e => na (e ▸ m))
  have out : ∀ z ∈ G1 ++ G3, ¬ z = a := fun z m e => by
    subst e
    rcases List.mem_append.mp m with m | m
    · exact (List.nodup_append.mp nds).2.2 z m z (by simp) rfl
    · have := (List.nodup_append.mp nds).2.1
      exact (List.nodup_append.mp this).2.2 z (by simp) z m rfl
  obtain ⟨d', hd3, r3⟩ := hput _ _ _ _ r2 k2 out
  rw [hd3] at h4
  cases h4
  refine ⟨a, vs, y, rfl, rfl, hH2, by rw [rs2.length]; exact lim_lt hl, ?_⟩
  have hj2 : j < δ2.length := (List.getElem?_eq_some_iff.mp hd').1
  have pq := Post.slot (B := fun x => x = a) p2 hj2 hv r3 k2 (fun z e => .inl (aj z (by subst e; simp))) (fun z m => ?_) ?_
  · have pp := p1.comp pq
    rw [List.append_nil] at pp
    exact k σ _ _ pp .refl
  · have : z ∈ G1 ++ (a :: G' ++ G3) ∨ z ∈ Fy := by
      simp only [List.mem_append, List.mem_cons] at m ⊢
      rcases m with m | (m | m | m) | m <;> simp [m]
    rcases this with m | m
    · exact .inl (aj z m)
    · exact .inr (.inl m)
  · have n1 := List.nodup_append.mp nds
    have n2 := List.nodup_append.mp n1.2.1
    have n3 := List.nodup_cons.mp n2.1
    refine List.nodup_append.mpr ⟨n1.1, List.nodup_append.mpr ⟨List.nodup_cons.mpr ⟨na, List.nodup_append.mpr ⟨n3.2, ndF, fun x m y' m' e => ?_⟩⟩, n2.2.1, fun x m y' m' e => ?_⟩, fun x m y' m' e => ?_⟩
    · subst e; exact nFy x m' (aj x (by simp [m]))
    · subst e
      rcases List.mem_cons.mp m with e | m
      · exact n2.2.2 x (by simp [e]) x m' rfl
      · rcases List.mem_append.mp m with m | m
        · exact n2.2.2 x (by simp [m]) x m' rfl
        · exact nFy x m (aj x (by simp [m']))
    · subst e
      rcases List.mem_append.mp m' with m' | m'
      · rcases List.mem_cons.mp m' with e | m'
        · exact n1.2.2 x m x (by simp [e]) rfl
        · rcases List.mem_append.mp m' with m' | m'
          · exact n1.2.2 x m x (by simp [m']) rfl
          · exact nFy x m' (aj x (by simp [m]))
      · exact n1.2.2 x m x (by simp [m']) rfl
end DL
set_option maxHeartbeats 4000000
/-! DL27: setdefault(k, []), its place. -/
namespace DL
open PySem PySem.Spec PyProof.Rows L2
section
variable {X : Cx} {pins : List (Addr × Obj)} {σ : L2.St} {H : Hp} {s : Shared} {a b : Addr} {u r : Value} {d : V} {A : Around} {E : Value → Shared → Prop}
theorem d_setdT {kvs : List (List Key × V)} {k : List Key} {Q : Value → Shared → Prop} (hu : A.units + 1 < cLine) (I : Inv X pins σ H s) (e : H a = some (.dT kvs)) (eb : H b = some (.tup (k.map kV))) (rd : RelV d r) (hl : kvs.length < sizeLine)
    (h1 : ∀ v, valV kvs k = some v → ∀ (w' : Value) (s' : Shared), Inv X pins σ H s' → RelV v w' → Q w' s') (h2 : valV kvs k = none → ∀ (w' : Value) (s' : Shared), Inv X pins σ (upd H a (.dT (putK kvs k d))) s' → RelV d w' → Q w' s') :
    wpAny (model X.prog X.w) A (call (.builtin "dict.setdefault") [.ref a, .ref b, r]) Q E s := by
  obtain ⟨z, hd, xs, rel, dd⟩ := dt_of I.hok e
  have hz : xs.length ≤ sizeLine := by rw [← Paired.length rel]; exact z
  have q := KT.val rel k
  refine call_setdefault_heap (hsz := hz) (tupleKind_room_in1 hu) (key_of I.hok eb) hd dd (fun p hp => ?_) fun hn h' dd' hs => ?_
  · rw [hp] at q
    cases q0 : valV kvs k with
    | none =>
      rw [q0] at q
      exact (show False from q).elim
    | some v0 =>
      rw [q0] at q
      exact h1 v0 q0 _ _ (I.tok _) q
  · rw [hn] at q
    cases q0 : valV kvs k with
    | some v0 =>
      rw [q0] at q
      exact (show False from q).elim
    | none =>
      have hl2 : (putK kvs k d).length ≤ sizeLine := by
        have := length_putK kvs k d
        omega
      obtain ⟨qo, es, ep, hq, g2, g3, g4, _, g5⟩ := dd'
      refine h2 q0 _ _ (d_write I (by rw [e]; exact True.intro) hs ⟨qo, hq⟩ ⟨hl2, hd, _, (KT.put rel k eb rd).keeps fun c ys ec => ?_, qo, es, ep, hq, g2, g3, g4, g5⟩) rd
      rw [upd_ne (ne_of ec e (fun z => nomatch z))]
      exact ec
end
/-- the key there, the key not there: in a tracked dict -/
def DHas (H : Hp) (a : Addr) (y v : V) : Prop := (∃ kvs k, H a = some (.dK kvs) ∧ y = kV k ∧ kvs.length < sizeLine ∧ valV kvs k = some v) ∨ ∃ kvs k b, H a = some (.dT kvs) ∧ y = .ref b ∧ H b = some (.tup (k.map kV)) ∧ kvs.length < sizeLine ∧ valV kvs k = some v
def DNew (H : Hp) (a : Addr) (y z : V) (H' : Hp) : Prop := (∃ kvs k, H a = some (.dK kvs) ∧ y = kV k ∧ kvs.length < sizeLine ∧ valV kvs k = none ∧ H' = upd H a (.dK (putK kvs k z))) ∨
  ∃ kvs k b, H a = some (.dT kvs) ∧ y = .ref b ∧ H b = some (.tup (k.map kV)) ∧ kvs.length < sizeLine ∧ valV kvs k = none ∧ H' = upd H a (.dT (putK kvs k z))
def tDSetG (td ty tx : TE) : TE := fun σ H Q => td σ H fun x H1 => ∃ a, x = .ref a ∧ IsD H1 a ∧ ty σ H1 fun y H2 => tx σ H2 fun z H3 => (∃ v, DHas H3 a y v ∧ Q v H3) ∨ ∃ H4, DNew H3 a y z H4 ∧ Q z H4
theorem pe_dsetG {X : Cx} {o e f : Expr} {td ty tx : TE} {apos cpos : Pos} (hu : X.A.units + 1 < cLine) (ho : PE X o td) (he : PE X e ty) (hf : PE X f tx) (m : M2 X o "setdefault" apos e f cpos) : PE X (.Call (.Attribute o "setdefault" apos) [e, f] [] cpos) (tDSetG td ty tx) := by
  refine ⟨fun pins s σ H Q I h => ?_⟩
  refine wpAny_Call_method m.base m.few m.line PySem.F.plainAttrs_dict PySem.F.slot_dict_setdefault PySem.F.type_dict_setdefault (thn (ho.run pins s σ H _ I h) fun u s1 ⟨x, H1, I1, rx, a, ex, d, q1⟩ => ?_)
  subst ex
  obtain rfl : u = Value.ref a := rx
  obtain ⟨t1, t2, _⟩ := isD_at I1 d
  refine ⟨t1, t2, ?_⟩
  rw [m.trees]
  refine Calls.callWith_builtin rfl (Calls.evalArgs_plain (Calls.spliced_cons (thn (he.run pins s1 σ H1 _ I1 q1) fun iv s2 ⟨y, H2, I2, ry, q2⟩ =>
    Calls.spliced_cons (thn (hf.run pins s2 σ H2 _ I2 q2) fun fv s3 ⟨z, H3, I3, rz, q⟩ => Calls.spliced_nil ?_))))
  rcases q with ⟨v, ⟨kvs, k, ea, ey, hl, hv⟩ | ⟨kvs, k, b, ea, ey, eb, hl, hv⟩, q⟩ | ⟨H4, ⟨kvs, k, ea, ey, hl, hv, rfl⟩ | ⟨kvs, k, b, ea, ey, eb, hl, hv, rfl⟩, q⟩
  · subst ey
    exact d_setd I3 ea ry rz hl (fun v' hv' w' s4 I4 rw' => by rw [hv] at hv'; cases hv'; exact ⟨v, _, I4, rw', q⟩) fun hn => by rw [hv] at hn; cases hn
  · subst ey
    cases (show iv = Value.ref b from ry)
    exact d_setdT hu I3 ea eb rz hl (fun v' hv' w' s4 I4 rw' => by rw [hv] at hv'; cases hv'; exact ⟨v, _, I4, rw', q⟩) fun hn => by rw [hv] at hn; cases hn
  · subst ey
    exact d_setd I3 ea ry rz hl (fun v' hv' => by rw [hv] at hv'; cases hv') fun hn w' s4 I4 rw' => ⟨z, _, I4, rw', q⟩
  · subst ey
    cases (show iv = Value.ref b from ry)
    exact d_setdT hu I3 ea eb rz hl (fun v' hv' => by rw [hv] at hv'; cases hv') fun hn w' s4 I4 rw' => ⟨z, _, I4, rw', q⟩
/-! ### the place -/
def cPSetd (j : Nat) (fk : EM D) : EM (List Sel) := fun δ => match (δ[j]?).join with
  | some (.dict _) => EM.bind fk (fun e δ1 => match (δ1[j]?).join with
    | some (.dict kvs) => if kvs.length < 1000000 then match posD kvs e with
      | some i => if (getP (.dict kvs) [.dv i]).isSome = true then some (.ok [.dv i] δ1) else none
      | none => if isT kvs = keyT e then some (.ok [.dv kvs.length] (δ1.set j (some (.dict (kvs ++ [(e, .list [])]))))) else none
      else none
    | _ => none) δ
  | _ => none
variable {K : PySem.W.Frag} {H : Hp}
theorem rd_of_eq {a : Addr} {o o' : HO} (h : H a = some o) (r : Rd H a o') (hn : ∀ x y, o ≠ .frz x y) : o' = o := by
  rcases r with r | ⟨x, r⟩
  · rw [h] at r; cases r; rfl
  · rw [h] at r; cases r; exact absurd rfl (hn _ _)
theorem valV_put {κ : Type} [DecidableEq κ] {kvs : List (κ × V)} {k : κ} {z : V} (h : valV kvs k = none) : putK kvs k z = kvs ++ [(k, z)] := by
  unfold putK
  rw [valV_any, h]; rfl
theorem key_not_none {H : Hp} {y : V} {e : D} (h : KeyR H y e) : ∀ {x : D}, getP (.dict [(e, x)]) [.dv 0] = some x := fun {x} => by
  rcases h with ⟨k, _, rfl⟩ | ⟨ks, b, _, _, rfl⟩
  · cases k <;> rfl
  · rfl
theorem dp_setd {S : Sig} {x : Str} {ke : Expr} {j : Nat} {M : List Nat} {fk : EM D} {p1 lp apos cpos : Pos} (n : NmS S j x) (hk : DKy S ke M fk) (hj : j ∉ M)
    (hbase : ∀ env, attributeBase (.Name x p1) "setdefault" env (eval (.Name x p1) env) = eval (.Name x p1) env)
    (hfew : ∀ env, ((backTo cpos (starEach [ke, .List [] lp] env)).all (fun x => !x.1) && (backToKw cpos (keywordEach [] env)).all (fun x => x.1.isSome) && decide (([ke, .List [] lp] : List Expr).length + ([] : List Keyword).length + (if ([] : List Keyword).isEmpty then 0 else 1) < 30)) = true)
    (hline : (apos.endLine == cpos.line) = true) (htr : ∀ env, backTo cpos (starEach [ke, .List [] lp] env) = [(false, eval ke env), (false, eval (.List [] lp) env)]) :
    DP S (.Call (.Attribute (.Name x p1) "setdefault" apos) [ke, .List [] lp] [] cpos) j (M ++ [j]) (cPSetd j fk) := fun σ H δ Fs Q r E s hf k => by
  refine ⟨_, fun Y hY => pe_dsetG (X := Y) (by have := hY.u65; omega) (n.pe (pos := p1) hY) (pe_tB (e := ke) hY) (pe_lst pa_nil) ⟨hbase _, hfew _, hline, htr _⟩, ?_⟩
  unfold cPSetd at hf
  cases q0 : (δ[j]?).join with
  | none => rw [q0] at hf; cases hf
  | some d0 =>
    rw [q0] at hf
    cases d0 <;> first | (cases hf; done) | skip
    rename_i kvs0
    dsimp only at hf
    obtain ⟨v, hv, rv⟩ := E.at j _ (join_some q0)
    obtain ⟨a, G0, rfl, _, hk0⟩ := rv.iDict
    have isd : IsD H a := by
      rcases hk0 with ⟨ks, vs, ds, hH, _⟩ | ⟨ks, vs, ds, hH, _⟩
      · exact .inl ⟨_, .inl hH⟩
      · exact .inr ⟨_, .inl hH⟩
    refine ⟨.ref a, hv, a, rfl, isd, ?_⟩
    rcases bind_some hf with ⟨e, δ1, h1, h2⟩ | ⟨z, h1, rfl⟩
    rotate_left
    · exact hk σ H δ Fs _ _ E s h1 k
    refine hk σ H δ Fs _ _ E s h1 fun y H1 Fs1 p ky => ?_
    cases q1 : (δ1[j]?).join with
    | none => rw [q1] at h2; cases h2
    | some d1 =>
      rw [q1] at h2
      cases d1 <;> first | (cases h2; done) | skip
      rename_i kvs
      dsimp only at h2
      by_cases hl : kvs.length < 1000000
      rotate_left
      · rw [if_neg hl] at h2; cases h2
      rw [if_pos hl] at h2
      have hd1 := join_some q1
      obtain ⟨v', hv', rv1⟩ := p.env.at j _ hd1
      rw [hv] at hv'
      cases hv'
      obtain ⟨a', G, e1, hF, hkd⟩ := rv1.iDict
      cases e1
      show ([] : List V).length ≤ sizeLine ∧ ∀ q, H1 q = none → _
      refine ⟨Nat.zero_le _, fun q hq => ?_⟩
      have alive : H1 a ≠ none := by
        rcases hkd with ⟨ks, vs, ds, hH, _⟩ | ⟨ks, vs, ds, hH, _⟩ <;> rw [hH] <;> exact fun z => nomatch z
      have haq : a ≠ q := fun z => alive (z ▸ hq)
      have kq : Keep (fun _ => False) H1 (upd H1 q (.lst [])) := .new hq
      have ky2 : KeyR (upd H1 q (.lst [])) y e := ky.keep kq
      have rv2 := rv1.keep kq fun _ _ h => h
      have p2 := p.newO (o := .lst []) hq rfl
      rw [List.nil_append] at p2
      cases q2 : posD kvs e with
      | some i =>
        rw [q2] at h2
        dsimp only at h2
        by_cases hg : (getP (.dict kvs) [.dv i]).isSome = true
        rotate_left
        · rw [if_neg hg] at h2; cases h2
        rw [if_pos hg] at h2
        cases h2
        obtain ⟨w, qq, xx, g1, g2, g3, g4⟩ := dget_of rv2 ky2 q2
        refine .inl ⟨w, ?_, k (.ref a) w (.dict kvs) xx _ Fs1 (p2.dropR.mono fun i m => List.mem_append_left _ m) hv hd1 g3 g4⟩
        rcases hkd with ⟨ks, vs, ds, hH, hl', rs, rfl⟩ | ⟨ks, vs, ds, hH, hl', rs, rfl⟩
        · have hz : (ks.zip vs).length < sizeLine := by
            rw [List.length_zip, List.length_map] at *
            have := rs.length
            exact lim_lt (by rw [← hl'] at *; simp at hl ⊢; omega)
          have hH' : upd H1 q (.lst []) a = some (.dK (ks.zip vs)) := by rw [upd_ne haq]; exact hH
          rcases g1 with ⟨kvs', k', r1, r2, r3⟩ | ⟨kvs', k', b, r1, r2, r3, r4⟩
          · cases rd_of_eq hH' r1 fun _ _ z => nomatch z
            exact .inl ⟨_, k', hH', r2, hz, r3.symm⟩
          · cases rd_of_eq hH' r1 fun _ _ z => nomatch z
        · have hz : (ks.zip vs).length < sizeLine := by
            have := rs.length
            refine lim_lt ?_
            simp at hl ⊢; omega
          have hH' : upd H1 q (.lst []) a = some (.dT (ks.zip vs)) := by rw [upd_ne haq]; exact hH
          rcases g1 with ⟨kvs', k', r1, r2, r3⟩ | ⟨kvs', k', b, r1, r2, r3, r4⟩
          · cases rd_of_eq hH' r1 fun _ _ z => nomatch z
          · cases rd_of_eq hH' r1 fun _ _ z => nomatch z
            exact .inr ⟨_, k', b, hH', r2, r3, hz, r4.symm⟩
      | none =>
        rw [q2] at h2
        dsimp only at h2
        by_cases hT : isT kvs = keyT e
        rotate_left
        · rw [if_neg hT] at h2; cases h2
        rw [if_pos hT] at h2
        cases h2
        have g1 := dget_none rv2 ky2 q2 hT
        have hj1 : j < δ1.length := (List.getElem?_eq_some_iff.mp hd1).1
        have nds := p.sep.nds j
        have hqj : q ∉ Fs1 j := fun m => by
          obtain ⟨o, ho, _⟩ := p.env.trk m
          rw [hq] at ho; cases ho
        -- the new data of the slot
        have fin : ∀ (o : HO), mutO o = true → upd H1 q (.lst []) a = some o → ∀ o', Rep S.K (upd (upd H1 q (.lst [])) a o') (.ref a) (.dict (kvs ++ [(e, .list [])])) (a :: (G ++ [q])) → WalkP (upd (upd H1 q (.lst [])) a o') (.ref a) [.dv kvs.length] (.ref q) → Q (.ref q) (upd (upd H1 q (.lst [])) a o') := fun o mo ho o' rep hw => by
          have k2 : Keep (fun z => z = a) (upd H1 q (.lst [])) (upd (upd H1 q (.lst [])) a o') := .upd rfl fun u eu => by rw [ho] at eu; cases eu; exact mo
          have pq := Post.slot (B := fun z => z = a) p2 hj1 hv rep k2 (fun z ez => .inl (by rw [hF, ez]; simp)) (fun z m => ?_) ?_
          · refine k (.ref a) (.ref q) (.dict (kvs ++ [(e, .list [])])) (.list []) _ _ pq hv (List.getElem?_set_self hj1) ?_ hw
            have hne := key_not_none (x := .list []) ky
            rw [getP, List.getElem?_append_right (Nat.le_refl _), Nat.sub_self]
            rw [getP] at hne
            exact hne
          · rcases List.mem_cons.mp m with m | m
            · exact .inl (by rw [hF, m]; simp)
            · rcases List.mem_append.mp m with m | m
              · exact .inl (by rw [hF]; simp [m])
              · exact .inr (.inl m)
          · rw [hF] at nds hqj
            have n1 := List.nodup_cons.mp nds
            refine List.nodup_cons.mpr ⟨fun m => ?_, List.nodup_append.mpr ⟨n1.2, by simp, fun z m z' m' ez => ?_⟩⟩
            · rcases List.mem_append.mp m with m | m
              · exact n1.1 m
              · exact haq (by simpa using m)
            · subst ez
              have : z = q := by simpa using m'
              subst this
              exact hqj (List.mem_cons_of_mem _ m)
        rcases hkd with ⟨ks, vs, ds, hH, hl', rs, rfl⟩ | ⟨ks, vs, ds, hH, hl', rs, rfl⟩
        · have hld : ks.length = ds.length := hl'.trans rs.length
          have hz : (ks.zip vs).length < sizeLine := by
            refine lim_lt ?_
            simp at hl ⊢; omega
          have hH' : upd H1 q (.lst []) a = some (.dK (ks.zip vs)) := by rw [upd_ne haq]; exact hH
          rcases g1 with ⟨kvs', k', r1, r2, r3⟩ | ⟨kvs', k', b, r1, r2, r3, r4⟩
          · cases rd_of_eq hH' r1 fun _ _ z => nomatch z
            have ee : e = keyD k' := by
              rcases ky with ⟨k2, e2, e3⟩ | ⟨js, b, e2, _, e3⟩
              · rw [e2] at r2
                rw [e3]
                cases k2 <;> cases k' <;> first | (cases r2; rfl) | cases r2
              · rw [e3, isT_zip] at hT; cases hT
            subst ee
            refine .inr ⟨_, .inl ⟨_, k', hH', r2, hz, r3.symm, rfl⟩, fin _ rfl hH' _ ?_ ?_⟩
            · rw [valV_put r3.symm]
              have e5 : ks.zip vs ++ [(k', V.ref q)] = (ks ++ [k']).zip (vs ++ [.ref q]) := by rw [List.zip_append hl']; rfl
              have e6 : (ks.map keyD).zip ds ++ [(keyD k', PyData.list [])] = ((ks ++ [k']).map keyD).zip (ds ++ [.list []]) := by rw [List.map_append, List.zip_append (by rw [List.length_map]; exact hld)]; rfl
              rw [e5, e6]
              refine Rep.dK upd_same (by rw [List.length_append, List.length_append, hl']; rfl) ?_
              have hqn : q ≠ a := Ne.symm haq
              have r5 : Reps S.K (upd H1 q (.lst [])) (vs ++ [V.ref q]) (ds ++ [PyData.list []]) (G ++ [q]) := by
                have := (rs.keep kq fun _ _ h => h).append (.cons (Rep.lst (F := []) (show upd H1 q (.lst []) q = some (.lst []) from upd_same) .nil) .nil)
                simpa using this
              have k3 : Keep (fun z => z = a) (upd H1 q (.lst [])) (upd (upd H1 q (.lst [])) a (.dK ((ks ++ [k']).zip (vs ++ [V.ref q])))) := .upd rfl fun u eu => by rw [hH'] at eu; cases eu; rfl
              refine r5.keep k3 fun z m ez => ?_
              subst ez
              rcases List.mem_append.mp m with m | m
              · rw [hF] at nds
                exact (List.nodup_cons.mp nds).1 m
              · exact haq (by simpa using m)
            · rw [valV_put r3.symm]
              have hlen : ((ks.map keyD).zip ds).length = (ks.zip vs).length := by simp; omega
              rw [hlen]
              exact .dk upd_same (by rw [List.getElem?_append_right (Nat.le_refl _), Nat.sub_self]; rfl) .nil
          · cases rd_of_eq hH' r1 fun _ _ z => nomatch z
        · have hld : ks.length = ds.length := hl'.trans rs.length
          have hz : (ks.zip vs).length < sizeLine := by
            refine lim_lt ?_
            simp at hl ⊢; omega
          have hH' : upd H1 q (.lst []) a = some (.dT (ks.zip vs)) := by rw [upd_ne haq]; exact hH
          rcases g1 with ⟨kvs', k', r1, r2, r3⟩ | ⟨kvs', k', b, r1, r2, r3, r4⟩
          · cases rd_of_eq hH' r1 fun _ _ z => nomatch z
          · cases rd_of_eq hH' r1 fun _ _ z => nomatch z
            have ee : e = tkeyD k' := by
              rcases ky2 with ⟨k2, e2, e3⟩ | ⟨js, b2, e2, hb2, e3⟩
              · rw [e3] at hT; cases k2 <;> cases hT
              · rw [e2] at r2
                cases r2
                rw [hb2] at r3
                have r3 : js.map kV = k'.map kV := HO.tup.inj (Option.some.inj r3)
                have : js = k' := by
                  have inj : ∀ x y : Key, kV x = kV y → x = y := fun x y h => by cases x <;> cases y <;> first | (cases h; rfl) | cases h
                  exact List.map_inj_right inj |>.mp r3
                rw [e3, this]
            subst ee
            refine .inr ⟨_, .inr ⟨_, k', b, hH', r2, r3, hz, r4.symm, rfl⟩, fin _ rfl hH' _ ?_ ?_⟩
            · rw [valV_put r4.symm]
              have e5 : ks.zip vs ++ [(k', V.ref q)] = (ks ++ [k']).zip (vs ++ [.ref q]) := by rw [List.zip_append hl']; rfl
              have e6 : (PyData.none, PyData.none) :: (ks.map tkeyD).zip ds ++ [(tkeyD k', PyData.list [])] = (PyData.none, PyData.none) :: ((ks ++ [k']).map tkeyD).zip (ds ++ [.list []]) := by rw [List.map_append, List.zip_append (by rw [List.length_map]; exact hld)]; rfl
              rw [e5, e6]
              refine Rep.dT upd_same (by rw [List.length_append, List.length_append, hl']; rfl) ?_
              have r5 : Reps S.K (upd H1 q (.lst [])) (vs ++ [V.ref q]) (ds ++ [PyData.list []]) (G ++ [q]) := by
                have := (rs.keep kq fun _ _ h => h).append (.cons (Rep.lst (F := []) (show upd H1 q (.lst []) q = some (.lst []) from upd_same) .nil) .nil)
                simpa using this
              have k3 : Keep (fun z => z = a) (upd H1 q (.lst [])) (upd (upd H1 q (.lst [])) a (.dT ((ks ++ [k']).zip (vs ++ [V.ref q])))) := .upd rfl fun u eu => by rw [hH'] at eu; cases eu; rfl
              refine r5.keep k3 fun z m ez => ?_
              subst ez
              rcases List.mem_append.mp m with m | m
              · rw [hF] at nds
                exact (List.nodup_cons.mp nds).1 m
              · exact haq (by simpa using m)
            · rw [valV_put r4.symm]
              have hlen : ((PyData.none, PyData.none) :: (ks.map tkeyD).zip ds).length = (ks.zip vs).length + 1 := by simp; omega
              rw [hlen]
              exact .dt upd_same (by rw [List.getElem?_append_right (Nat.le_refl _), Nat.sub_self]; rfl) .nil
end DL
set_option maxHeartbeats 4000000
/-! DL28: dict displays, a key in a dict, defs that call themselves. -/
namespace DL
open PySem PySem.Spec PyProof.Rows L2
section
variable {S : Sig}
/-! ### {k: v, ..} -/
def flatK : List (Option Expr) → List Expr → List Expr
  | some k :: ks, v :: vs => k :: v :: flatK ks vs
  | _, _ => []
def trsK (S : Sig) : List (Option Expr) → List Expr → List (TE × TE)
  | some k :: ks, v :: vs => (tB S k, tB S v) :: trsK S ks vs
  | _, _ => []
def pairsV : List V → List (V × V)
  | k :: v :: r => (k, v) :: pairsV r
  | _ => []
theorem pps_of {X : Cx} {pos : Pos} (h : Fits S X) : ∀ {ks : List (Option Expr)} {vs : List Expr}, ks.all (·.isSome) = true → ks.length = vs.length → PPs X pos ks vs (trsK S ks vs)
  | [], [], _, _ => pps_nil
  | [], _ :: _, _, h2 => by cases h2
  | _ :: _, [], _, h2 => by cases h2
  | none :: _, _ :: _, h1, _ => by cases h1
  | some k :: ks, v :: vs, h1, h2 => pps_cons (pe_tB h) (pe_tB h) (pps_of h (by rw [List.all_cons, Bool.and_eq_true] at h1; exact h1.2) (Nat.succ.inj h2))
theorem tPairs_eq : ∀ {ks : List (Option Expr)} {vs : List Expr} {σ : L2.St} {H : Hp} {Q : List (V × V) → Hp → Prop}, ks.all (·.isSome) = true → ks.length = vs.length → tPairs (trsK S ks vs) σ H Q = tBA S (flatK ks vs) σ H (fun xs H2 => Q (pairsV xs) H2)
  | [], [], _, _, _, _, _ => rfl
  | [], _ :: _, _, _, _, _, h2 => by cases h2
  | _ :: _, [], _, _, _, _, h2 => by cases h2
  | none :: _, _ :: _, _, _, _, h1, _ => by cases h1
  | some k :: ks, v :: vs, σ, H, Q, h1, h2 => by
    have h1 : ks.all (·.isSome) = true := by rw [List.all_cons, Bool.and_eq_true] at h1; exact h1.2
    have h2 := Nat.succ.inj h2
    show (tB S k σ H fun x H1 => tB S v σ H1 fun y H2 => tPairs (trsK S ks vs) σ H2 fun ps H3 => Q ((x, y) :: ps) H3) = (tB S k σ H fun x H1 => tB S v σ H1 fun y H2 => tBA S (flatK ks vs) σ H2 fun xs H3 => Q ((x, y) :: pairsV xs) H3)
    congr 1
    funext x H1
    congr 1
    funext y H2
    exact tPairs_eq h1 h2
def altD : List D → Option (List (D × D))
  | [] => some []
  | k :: v :: r => if (keyOf k).isSome = true ∧ imm v = true then (altD r).map ((k, v) :: ·) else none
  | _ => none
def gDisp (ds : List D) : Option D := match altD ds with
  | some kvs => if (kvs.map fun kv => keyOf kv.1).Nodup ∧ kvs.length ≤ 15 then some (.dict kvs) else none
  | none => none
theorem altD_reps {K : PySem.W.Frag} {H : Hp} : ∀ {vs : List V} {ds : List D} {F : List Addr} {kvs : List (D × D)}, Reps K H vs ds F → altD ds = some kvs → ∃ (ks : List Key) (us : List V) (es : List D), pairsV vs = (ks.zip us).map (fun kv => (kV kv.1, kv.2)) ∧ ks.length = us.length ∧ kvs = (ks.map keyD).zip es ∧ Reps K H us es []
  | _, [], _, kvs, .nil, h => by cases h; exact ⟨[], [], [], rfl, rfl, rfl, .nil⟩
  | _, [_], _, kvs, r, h => by cases h
  | _, k :: d :: ds, _, kvs, .cons r1 (.cons r2 rs), h => by
    unfold altD at h
    by_cases hc : (keyOf k).isSome = true ∧ imm d = true
    · rw [if_pos hc] at h
      cases q : altD ds with
      | none => rw [q] at h; cases h
      | some kvs' =>
        rw [q] at h
        cases h
        obtain ⟨ks, us, es, h1, h2, h3, h4⟩ := altD_reps rs q
        obtain ⟨ky, hk⟩ := Option.isSome_iff_exists.mp hc.1
        have := keyOf_some hk
        subst this
        have e1 := key_V r1
        subst e1
        have e2 := r2.imm hc.2
        subst e2
        refine ⟨ky :: ks, _ :: us, d :: es, ?_, by rw [List.length_cons, List.length_cons, h2], ?_, .cons (F := []) r2 h4⟩
        · show (kV ky, _) :: pairsV _ = (kV ky, _) :: (ks.zip us).map _
          rw [h1]
        · rw [h3]; rfl
    · rw [if_neg hc] at h; cases h
theorem mergeK_nodup : ∀ {more acc : List (Key × V)}, (more.map (·.1)).Nodup → (∀ k ∈ more.map (·.1), k ∉ acc.map (·.1)) → mergeK acc more = acc ++ more
  | [], acc, _, _ => (List.append_nil _).symm
  | p :: r, acc, hn, hd => by
    rw [List.map_cons, List.nodup_cons] at hn
    have e : putK acc p.1 p.2 = acc ++ [p] := by
      unfold putK
      rw [if_neg]
      intro h
      obtain ⟨q, m, hq⟩ := List.any_eq_true.mp h
      exact hd p.1 (by simp) (by rw [← of_decide_eq_true hq]; exact List.mem_map_of_mem m)
    show mergeK (putK acc p.1 p.2) r = _
    rw [e, mergeK_nodup hn.2, List.append_assoc]; rfl
    intro k hk m
    rw [List.map_append] at m
    rcases List.mem_append.mp m with m | m
    · exact hd k (by simp only [List.map_cons, List.mem_cons]; exact .inr hk) m
    · have : k = p.1 := by simpa using m
      subst this
      exact hn.1 hk
theorem de_disp {keys : List (Option Expr)} {values : List Expr} {pos : Pos} {κs : List Kd} {M : List Nat} {f : EM (List D)} (hA : DA S (flatK keys values) κs M f) (ho : κs.all isOwn = true) (hall : keys.all (·.isSome) = true) (hl : keys.length = values.length) (h0 : keys.isEmpty = false) (h15 : Nat.ble keys.length 15 = true) : DE S (.Dict keys values pos) .own M (cV f gDisp) := fun σ H δ Fs Q r E s hf k => by
  refine ⟨_, fun X hX => pe_disp (pps_of hX hall hl) hall hl (fun e => by rw [e] at h0; cases h0) (Nat.le_of_ble_eq_true h15), fun p hp => ?_⟩
  rw [tPairs_eq hall hl]
  have kp : Keep (fun _ => False) H (upd H p (.dK [])) := .new hp
  have E1 : EnvR S.K (upd H p (.dK [])) σ δ Fs := E.keep kp fun _ _ _ h => h
  have px : ∀ {M' : List Nat} {δ' : DEnv} {Fs' : FT} {H2 : Hp} {Fr : List Addr}, Post S.K M' (upd H p (.dK [])) δ Fs σ H2 δ' Fs' Fr → H2 p = some (.dK []) ∧ (∀ i, p ∉ Fs' i) ∧ p ∉ Fr := fun {M' δ' Fs' H2 Fr} q => by
    have n0 : ∀ i, p ∉ Fs i := fun i m => by
      obtain ⟨o, ho, _⟩ := E.trk m
      rw [hp] at ho; cases ho
    have nM : ¬ InM M' Fs p := fun ⟨i, _, m⟩ => n0 i m
    refine ⟨q.keep p _ upd_same (.inl nM), fun i m => ?_, fun m => ?_⟩
    · rcases q.all m with ⟨j, z⟩ | z
      · exact n0 j z
      · rw [upd_same] at z; cases z
    · rcases q.subr p m with z | z
      · exact nM z
      · rw [upd_same] at z; cases z
  rcases bind_some hf with ⟨ds, δ1, h1, h2⟩ | ⟨x, h1, rfl⟩
  rotate_left
  · refine hA σ _ δ Fs _ _ E1 s h1 (XOk.post (M := []) (σ' := σ) (Fr := []) (δ' := δ) (Fs' := Fs) k ⟨E1, s, fun _ m => (nomatch m), fun i m => (nomatch m), fun _ m => (nomatch m), kp.imp fun _ _ h => h.elim, fun _ _ => ⟨rfl, rfl⟩⟩)
  cases e2 : gDisp ds with
  | none => rw [e2] at h2; cases h2
  | some dz =>
    rw [e2] at h2
    cases h2
    unfold gDisp at e2
    cases q : altD ds with
    | none => rw [q] at e2; cases e2
    | some kvs =>
      rw [q] at e2
      dsimp only at e2
      by_cases hc : (kvs.map fun kv => keyOf kv.1).Nodup ∧ kvs.length ≤ 15
      · rw [if_pos hc] at e2
        cases e2
        refine hA σ _ δ Fs _ _ E1 s h1 fun vs H2 Fs2 Frs p2 o => ?_
        obtain ⟨g1, g2, g3⟩ := px p2
        have rs := o.owns (owns_of ho)
        obtain ⟨ks, us, es, w1, w2, w3, w4⟩ := altD_reps rs q
        have w5 : ks.length = es.length := w2.trans w4.length
        have hnd : ks.Nodup := by
          have e3 : (kvs.map fun kv => keyOf kv.1) = ks.map some := by
            rw [w3, show (fun kv : D × D => keyOf kv.1) = keyOf ∘ Prod.fst from rfl, ← List.map_map, List.map_fst_zip (by rw [List.length_map]; omega), List.map_map]
            congr 1
            funext k
            exact keyOf_keyD k
          rw [e3] at hc
          exact (List.pairwise_map.mp hc.1).imp fun h e => h (congrArg some e)
        refine ⟨g1, ks.zip us, w1, ?_, ?_⟩
        · have := hc.2
          rw [w3] at this
          simp at this ⊢
          omega
        rw [mergeK_nodup (acc := []) (by rw [List.map_fst_zip (by omega)]; exact hnd) (fun _ _ m => (nomatch m)), List.nil_append]
        have k2 : Keep (fun z => z = p) H2 (upd H2 p (.dK (ks.zip us))) := .upd rfl fun u eu => by rw [g1] at eu; cases eu; rfl
        have rep : Rep S.K (upd H2 p (.dK (ks.zip us))) (.ref p) (.dict kvs) [p] := by
          rw [w3]
          exact .dK upd_same w2 (w4.keep k2 fun _ m => (nomatch m))
        refine k (.ref p) _ Fs2 [p] ⟨p2.env.keep k2 fun i a m e => g2 i (e ▸ m), ⟨by simp, p2.sep.nds, p2.sep.dis, fun i a m m' => g2 i (by rw [← (by simpa using m : a = p)]; exact m')⟩, fun a m => ?_, fun i hi a m => ?_, fun a m => .inr ?_, fun a u e c => ?_, p2.same⟩ rep
        · have e : a = p := by simpa using m
          subst e
          exact ⟨_, upd_same, rfl⟩
        · rcases p2.sub i hi a m with z | z
          · exact .inl z
          · refine .inr ?_
            by_cases e : a = p
            · rw [e] at m; exact absurd m (g2 i)
            · rw [upd_ne e] at z; exact z
        · rw [(by simpa using m : a = p)]; exact hp
        · have hne : a ≠ p := fun z => by rw [z, hp] at e; cases e
          rw [upd_ne hne]
          exact p2.keep a u (by rw [upd_ne hne]; exact e) c
      · rw [if_neg hc] at e2; cases e2
/-! ### a key in a dict -/
def inK : List D → Option Bool
  | [e, .dict kvs] => match keyOf e with
    | some k => if isT kvs = false then some (findD kvs k).isSome else none
    | none => none
  | _ => none
def gInK (ds : List D) : Option D := (inK ds).map .bool
def gNinK (ds : List D) : Option D := (inK ds).map fun b => .bool (!b)
theorem find_none {K : PySem.W.Frag} {H : Hp} {k : Key} : ∀ {vs : List V} {ds : List D} {F : List Addr} {ks : List Key}, Reps K H vs ds F → ks.length = vs.length → findD ((ks.map keyD).zip ds) k = none → valV (ks.zip vs) k = none
  | _, _, _, [], _, _, _ => rfl
  | _, _, _, j :: ks, .cons (v := v) (d := e) r rs, hl, h => by
    have h : findD ((keyD j, e) :: (ks.map keyD).zip _) k = none := h
    unfold findD at h
    rw [List.find?_cons, hasK_key] at h
    by_cases e1 : j = k
    · rw [decide_eq_true e1] at h; cases h
    · rw [decide_eq_false e1] at h
      show valV ((j, v) :: ks.zip _) k = none
      rw [valV_neg e1]
      exact find_none rs (Nat.succ.inj hl) h
theorem inK_get {K : PySem.W.Frag} {H : Hp} {x y : V} {e d : D} {b : Bool} {F G : List Addr} (rx : Rep K H x e F) (ry : Rep K H y d G) (h : inK [e, d] = some b) : ∃ (a : Addr) (o : Option V), y = .ref a ∧ DGet H a x o ∧ o.isSome = b := by
  cases d <;> first | (cases h; done) | skip
  rename_i kvs
  unfold inK at h
  dsimp only at h
  cases hk : keyOf e with
  | none => rw [hk] at h; cases h
  | some k =>
    rw [hk] at h
    dsimp only at h
    by_cases hT : isT kvs = false
    · rw [if_pos hT] at h
      cases h
      have := keyOf_some hk
      subst this
      have e1 := key_V rx
      subst e1
      obtain ⟨a, G', rfl, rfl, ⟨ks, vs, ds, hH, hl, rs, rfl⟩ | ⟨ks, vs, ds, hH, hl, rs, rfl⟩⟩ := ry.iDict
      · refine ⟨a, _, rfl, DGet.k hH, ?_⟩
        cases q : findD ((ks.map keyD).zip ds) k with
        | none => rw [find_none rs hl q]; rfl
        | some d =>
          obtain ⟨u, _, h1, _⟩ := find_zip rs hl q
          rw [h1]; rfl
      · cases hT
    · rw [if_neg hT] at h; cases h
theorem inK_shape {ds : List D} {b : Bool} (h : inK ds = some b) : ∃ e d, ds = [e, d] := by
  unfold inK at h
  split at h
  · exact ⟨_, _, rfl⟩
  · cases h
theorem de_inK {a b : Expr} {pos : Pos} {κs : List Kd} {M : List Nat} {f : EM (List D)} (hA : DA S [a, b] κs M f) (hm : behindInMarks .In b = false) : DE S (.Compare a [.In] [b] pos) .own M (cV f gInK) := by
  have g : ∀ X, Fits S X → PE X (.Compare a [.In] [b] pos) (fun σ H Q => tBA S [a, b] σ H fun vs H1 => l2 (fun y x H2 Q => ∃ a o, x = .ref a ∧ DGet H2 a y o ∧ Q (.bl o.isSome) H2) vs H1 Q) := fun X hX => pe_cmp (pc_din (by have := hX.u65; omega) (pe_tB hX) (pe_tB hX)) hm
  refine de_v hA ⟨_, g⟩ fun ds dz h => ⟨_, g, fun H vs F Q r k => ?_⟩
  unfold gInK at h
  cases q : inK ds with
  | none => rw [q] at h; cases h
  | some bb =>
    rw [q] at h
    cases h
    obtain ⟨e, d, rfl⟩ := inK_shape q
    obtain ⟨v, w, F1, F2, rfl, r1, r2⟩ := r.i2
    obtain ⟨a, o, h1, h2, h3⟩ := inK_get r1 r2 q
    exact ⟨a, o, h1, h2, by rw [h3]; exact k _ H [] (.same (.bl _))⟩
theorem de_ninK {a b : Expr} {pos : Pos} {κs : List Kd} {M : List Nat} {f : EM (List D)} (hA : DA S [a, b] κs M f) (hm : behindInMarks .NotIn b = false) : DE S (.Compare a [.NotIn] [b] pos) .own M (cV f gNinK) := by
  have g : ∀ X, Fits S X → PE X (.Compare a [.NotIn] [b] pos) (fun σ H Q => tBA S [a, b] σ H fun vs H1 => l2 (fun y x H2 Q => ∃ a o, x = .ref a ∧ DGet H2 a y o ∧ Q (.bl (!o.isSome)) H2) vs H1 Q) := fun X hX => pe_cmp (pc_dnotin (by have := hX.u65; omega) (pe_tB hX) (pe_tB hX)) hm
  refine de_v hA ⟨_, g⟩ fun ds dz h => ⟨_, g, fun H vs F Q r k => ?_⟩
  unfold gNinK at h
  cases q : inK ds with
  | none => rw [q] at h; cases h
  | some bb =>
    rw [q] at h
    cases h
    obtain ⟨e, d, rfl⟩ := inK_shape q
    obtain ⟨v, w, F1, F2, rfl, r1, r2⟩ := r.i2
    obtain ⟨a, o, h1, h2, h3⟩ := inK_get r1 r2 q
    exact ⟨a, o, h1, h2, by rw [h3]; exact k _ H [] (.same (.bl _))⟩
/-- the tests -/
theorem dt_inK {a b : Expr} {pos : Pos} {κs : List Kd} {M : List Nat} {f : EM (List D)} {op : CmpOp} {g : List D → Option D} (hop : (op = .In ∧ g = gInK) ∨ (op = .NotIn ∧ g = gNinK)) (hA : DA S [a, b] κs M f) (hm : behindInMarks op b = false) : DT S (.Compare a [op] [b] pos) M (cBl (cV f g)) := fun σ H δ Fs Q r E s hf k => by
  have key : ∃ n : Bool → Bool, g = (fun ds => (inK ds).map fun b => .bool (n b)) ∧ ∀ X, Fits S X → PT X (.Compare a [op] [b] pos) (fun σ H Q => tBA S [a, b] σ H fun vs H1 => l2 (fun y x H2 Q => ∃ a o, x = .ref a ∧ DGet H2 a y o ∧ Q (.bl (n o.isSome)) H2) vs H1 fun x H' => ∃ k, x = .bl k ∧ Q k H') := by
    rcases hop with ⟨rfl, rfl⟩ | ⟨rfl, rfl⟩
    · exact ⟨id, rfl, fun X hX => pt_cmp (pc_din (by have := hX.u65; omega) (pe_tB hX) (pe_tB hX)) hm⟩
    · exact ⟨fun b => !b, rfl, fun X hX => pt_cmp (pc_dnotin (by have := hX.u65; omega) (pe_tB hX) (pe_tB hX)) hm⟩
  obtain ⟨n, rfl, ft⟩ := key
  rcases bind_some hf with ⟨d, δ1, h1, h2⟩ | ⟨x, h1, rfl⟩
  · rcases bind_some h1 with ⟨ds, δ2, h3, h4⟩ | ⟨x, h3, h4⟩
    · dsimp only at h4
      cases q : inK ds with
      | none => rw [q] at h4; cases h4
      | some bb =>
        rw [q] at h4
        cases h4
        cases h2
        refine ⟨_, ft, hA σ H δ Fs _ _ E s h3 fun vs H1 Fs1 Frs p o => ?_⟩
        obtain ⟨F, rs⟩ := o.reps p.env
        obtain ⟨e, d, rfl⟩ := inK_shape q
        obtain ⟨v, w, F1, F2, rfl, r1, r2⟩ := rs.i2
        obtain ⟨a, o, h1, h2, h3⟩ := inK_get r1 r2 q
        exact ⟨a, o, h1, h2, _, rfl, by rw [h3]; exact k H1 Fs1 p.dropR⟩
    · cases h4
  · rcases bind_some h1 with ⟨ds, δ2, h3, h4⟩ | ⟨y, h3, h4⟩
    · dsimp only at h4
      cases q : inK ds with
      | none => rw [q] at h4; cases h4
      | some bb => rw [q] at h4; cases h4
    · cases h4
      exact ⟨_, ft, hA σ H δ Fs _ _ E s h3 k⟩
end
/-! ### a def that calls itself -/
def recF (G : EM D → EM D) : Nat → EM D
  | 0 => fun _ => none
  | n + 1 => G (recF G n)
theorem FnI.mono {P : Program} {w : World} {K : PySem.W.Frag} {mg : Str → Option Value} {base : Heap} {x : Str} {F : EM D} {mp : List Nat} {n j k : Nat} (h : FnI P w K mg base x F mp n j) (hjk : j ≤ k) : FnI P w K mg base x F mp n k :=
  let ⟨f, fd, ps, ok, r⟩ := h.ex; ⟨f, fd, ps, ok.mono hjk, r⟩
theorem FnI.zero {P : Program} {w : World} {K : PySem.W.Frag} {mg : Str → Option Value} {base : Heap} {x : Str} {st : Stmt} {f : Addr} {fd : FuncData} {ps : List Str} {mp : List Nat} {n k : Nat} (Fu : Fun K x x st f fd) (hm : mg x = some (.ref f)) (b : Binds K fd ps []) (hn : ps.length = n) : FnI P w K mg base x (fun _ => none) mp n k :=
  FnI.mk' Fu ⟨fun vs H Q E h => h.1.trans hn.symm, fun A outer s H args us vs Q E _ _ _ _ h => by
    obtain ⟨_, δ, Fp, r, _, _, h, _⟩ := h
    cases h⟩ hm b
end DL
set_option maxHeartbeats 1000000
/-! DL21: typed mirrors: encoders of plain types, what a combinator gives on encoded data. -/
namespace DL
open PySem PySem.Spec PyProof.Rows L2
section
variable {α β γ : Type}
/-! texts that can be laid, at most a million long -/
def okS (s : Str) : Bool := PyData.strOk s && decide (s.length ≤ 1000000)
structure TX where
  s : Str
  ok : okS s = true
instance : DecidableEq TX := fun a b => match a, b with
  | ⟨s, h⟩, ⟨t, k⟩ => if e : s = t then .isTrue (by subst e; rfl) else .isFalse fun q => e (TX.mk.inj q)
instance : Inhabited TX := ⟨⟨"", by decide +kernel⟩⟩
theorem TX.ext {a b : TX} (h : a.s = b.s) : a = b := by
  cases a; cases b; cases h; rfl
/-- data that can't change, of any kind -/
structure ID where
  d : D
  im : imm d = true
def zI : Int → D := fun i => .int i
def zS : TX → D := fun s => .str s.s
def zB : Bool → D := fun b => .bool b
def zN : Unit → D := fun _ => .none
def zX : ID → D := ID.d
def zT (e : α → D) : List α → D := fun xs => .tuple (xs.map e)
def zL (e : α → D) : List α → D := fun xs => .list (xs.map e)
def zO (e : α → D) : Option α → D
  | none => .none
  | some a => e a
class Im (e : α → D) : Prop where
  im : ∀ a, imm (e a) = true
class Dpt (e : α → D) (n : outParam Nat) : Prop where
  lay : ∀ a, PyData.canLay0 (e a) = true
  dep : ∀ a, PyData.depth (e a) ≤ n
class Ev (e : α → D) : Prop where
  ev : ∀ a b, PyData.eqv (e a) (e b) = true ↔ a = b
class Alk (e : α → D) : Prop where
  alk : ∀ a b, PySem.W.alike (e a) (e b) = true
theorem Im.s {e : α → D} [Im e] (xs : List α) : imms (xs.map e) = true := imms_of fun d m => by
  obtain ⟨a, _, rfl⟩ := List.mem_map.mp m
  exact Im.im a
instance : Im zI := ⟨fun _ => rfl⟩
instance : Im zS := ⟨fun _ => rfl⟩
instance : Im zB := ⟨fun _ => rfl⟩
instance : Im zN := ⟨fun _ => rfl⟩
instance : Im zX := ⟨fun a => a.im⟩
instance {e : α → D} [Im e] : Im (zT e) := ⟨fun xs => imm_tup.trans (Im.s xs)⟩
instance {e : α → D} [Im e] : Im (zO e) := ⟨fun o => match o with
  | none => rfl
  | some a => Im.im a⟩
instance : Dpt zI 0 := ⟨fun _ => rfl, fun _ => Nat.le_refl _⟩
instance : Dpt zS 0 := ⟨fun a => (Bool.and_eq_true_iff.mp a.ok).1, fun _ => Nat.le_refl _⟩
instance : Dpt zB 0 := ⟨fun _ => rfl, fun _ => Nat.le_refl _⟩
instance : Dpt zN 0 := ⟨fun _ => rfl, fun _ => Nat.le_refl _⟩
theorem Dpt.lays {e : α → D} {n : Nat} [Dpt e n] : ∀ xs : List α, PyData.canLayAll0 (xs.map e) = true
  | [] => rfl
  | x :: r => by
    show (PyData.canLay0 (e x) && PyData.canLayAll0 (r.map e)) = true
    rw [Dpt.lay x, Dpt.lays r]; rfl
theorem Dpt.deps {e : α → D} {n : Nat} [Dpt e n] : ∀ xs : List α, PyData.depthAll (xs.map e) ≤ n
  | [] => Nat.zero_le _
  | x :: r => by
    show max (PyData.depth (e x)) (PyData.depthAll (r.map e)) ≤ n
    have h1 := Dpt.dep (e := e) x
    have h2 := Dpt.deps (e := e) r
    omega
instance {e : α → D} {n : Nat} [Dpt e n] : Dpt (zT e) (n + 1) := ⟨fun xs => by
  show PyData.canLay0 (.tuple _) = true
  rw [PyData.canLay0]; exact Dpt.lays xs, fun xs => by
  show PyData.depth (.tuple _) ≤ _
  rw [PyData.depth]; exact Nat.succ_le_succ (Dpt.deps xs)⟩
instance {e : α → D} {n : Nat} [Dpt e n] : Dpt (zL e) (n + 1) := ⟨fun xs => by
  show PyData.canLay0 (.list _) = true
  rw [PyData.canLay0]; exact Dpt.lays xs, fun xs => by
  show PyData.depth (.list _) ≤ _
  rw [PyData.depth]; exact Nat.succ_le_succ (Dpt.deps xs)⟩
instance {e : α → D} {n : Nat} [Dpt e n] : Dpt (zO e) n := ⟨fun o => match o with
  | none => rfl
  | some a => Dpt.lay a, fun o => match o with
  | none => Nat.zero_le _
  | some a => Dpt.dep a⟩
instance : Ev zI := ⟨fun a b => by show (a == b) = true ↔ _; exact beq_iff_eq⟩
instance : Ev zS := ⟨fun a b => by
  show (a.s == b.s) = true ↔ _
  rw [beq_iff_eq]
  exact ⟨TX.ext, fun h => by rw [h]⟩⟩
instance : Ev zB := ⟨fun a b => by show (a == b) = true ↔ _; exact beq_iff_eq⟩
instance : Ev zN := ⟨fun _ _ => ⟨fun _ => rfl, fun _ => rfl⟩⟩
theorem Ev.evs {e : α → D} [Ev e] : ∀ xs ys : List α, PyData.eqvAll (xs.map e) (ys.map e) = true ↔ xs = ys
  | [], [] => ⟨fun _ => rfl, fun _ => rfl⟩
  | [], _ :: _ => ⟨fun h => (nomatch h), fun h => (nomatch h)⟩
  | _ :: _, [] => ⟨fun h => (nomatch h), fun h => (nomatch h)⟩
  | x :: r, y :: t => by
    show (PyData.eqv (e x) (e y) && PyData.eqvAll (r.map e) (t.map e)) = true ↔ _
    rw [Bool.and_eq_true, Ev.ev, Ev.evs r t, List.cons.injEq]
instance {e : α → D} [Ev e] : Ev (zT e) := ⟨fun a b => by
  show PyData.eqv (.tuple _) (.tuple _) = true ↔ _
  rw [PyData.eqv]; exact Ev.evs a b⟩
instance {e : α → D} [Ev e] : Ev (zL e) := ⟨fun a b => by
  show PyData.eqv (.list _) (.list _) = true ↔ _
  rw [PyData.eqv]; exact Ev.evs a b⟩
instance : Alk zI := ⟨fun _ _ => rfl⟩
instance : Alk zS := ⟨fun _ _ => rfl⟩
instance : Alk zB := ⟨fun _ _ => rfl⟩
theorem Alk.alks {e : α → D} [Alk e] : ∀ xs ys : List α, PySem.W.alikeAll (xs.map e) (ys.map e) = true
  | [], [] => rfl
  | [], _ :: _ => rfl
  | _ :: _, [] => rfl
  | x :: r, y :: t => by
    show (PySem.W.alike (e x) (e y) && PySem.W.alikeAll (r.map e) (t.map e)) = true
    rw [Alk.alk, Alk.alks r t]; rfl
instance {e : α → D} [Alk e] : Alk (zT e) := ⟨fun a b => by
  show PySem.W.alike (.tuple _) (.tuple _) = true
  rw [PySem.W.alike]; exact Alk.alks a b⟩
instance {e : α → D} [Alk e] : Alk (zL e) := ⟨fun a b => by
  show PySem.W.alike (.list _) (.list _) = true
  rw [PySem.W.alike]; exact Alk.alks a b⟩
section
variable {α0 : Type}
def z1 (f0 : α0 → D) : α0 → D := fun p => .tuple [f0 p]
instance {f0 : α0 → D} [Im f0] : Im (z1 f0) := ⟨fun p => by
  show imm (.tuple _) = true
  rw [imm_tup]
  exact imms_of fun d m => by
    simp only [List.mem_cons, List.not_mem_nil, or_false] at m
    subst m; exact Im.im _⟩
instance {f0 : α0 → D} {n0 : Nat} [Dpt f0 n0] : Dpt (z1 f0) (n0 + 1) := ⟨fun p => by
  show PyData.canLay0 (.tuple _) = true
  simp only [PyData.canLay0, PyData.canLayAll0, Dpt.lay, Bool.and_self], fun p => by
  show PyData.depth (.tuple _) ≤ _
  simp only [PyData.depth, PyData.depthAll]
  have h0 := Dpt.dep (e := f0) (p)
  omega⟩
instance {f0 : α0 → D} [Ev f0] : Ev (z1 f0) := ⟨fun p q => by
  show PyData.eqv (.tuple _) (.tuple _) = true ↔ _
  simp only [PyData.eqv, PyData.eqvAll, Bool.and_eq_true, Ev.ev, and_true, Prod.ext_iff]⟩
instance {f0 : α0 → D} [Alk f0] : Alk (z1 f0) := ⟨fun p q => by
  show PySem.W.alike (.tuple _) (.tuple _) = true
  simp only [PySem.W.alike, PySem.W.alikeAll, Alk.alk, Bool.and_self]⟩
end
section
variable {α0 α1 : Type}
def z2 (f0 : α0 → D) (f1 : α1 → D) : α0 × α1 → D := fun p => .tuple [f0 p.1, f1 p.2]
instance {f0 : α0 → D} {f1 : α1 → D} [Im f0] [Im f1] : Im (z2 f0 f1) := ⟨fun p => by
  show imm (.tuple _) = true
  rw [imm_tup]
  exact imms_of fun d m => by
    simp only [List.mem_cons, List.not_mem_nil, or_false] at m
    rcases m with rfl | rfl <;> exact Im.im _⟩
instance {f0 : α0 → D} {f1 : α1 → D} {n0 n1 : Nat} [Dpt f0 n0] [Dpt f1 n1] : Dpt (z2 f0 f1) (max n0 (n1) + 1) := ⟨fun p => by
  show PyData.canLay0 (.tuple _) = true
  simp only [PyData.canLay0, PyData.canLayAll0, Dpt.lay, Bool.and_self], fun p => by
  show PyData.depth (.tuple _) ≤ _
  simp only [PyData.depth, PyData.depthAll]
  have h0 := Dpt.dep (e := f0) (p.1)
  have h1 := Dpt.dep (e := f1) (p.2)
  omega⟩
instance {f0 : α0 → D} {f1 : α1 → D} [Ev f0] [Ev f1] : Ev (z2 f0 f1) := ⟨fun p q => by
  show PyData.eqv (.tuple _) (.tuple _) = true ↔ _
  simp only [PyData.eqv, PyData.eqvAll, Bool.and_eq_true, Ev.ev, and_true, Prod.ext_iff]⟩
instance {f0 : α0 → D} {f1 : α1 → D} [Alk f0] [Alk f1] : Alk (z2 f0 f1) := ⟨fun p q => by
  show PySem.W.alike (.tuple _) (.tuple _) = true
  simp only [PySem.W.alike, PySem.W.alikeAll, Alk.alk, Bool.and_self]⟩
end
section
variable {α0 α1 α2 : Type}
def z3 (f0 : α0 → D) (f1 : α1 → D) (f2 : α2 → D) : α0 × α1 × α2 → D := fun p => .tuple [f0 p.1, f1 p.2.1, f2 p.2.2]
instance {f0 : α0 → D} {f1 : α1 → D} {f2 : α2 → D} [Im f0] [Im f1] [Im f2] : Im (z3 f0 f1 f2) := ⟨fun p => by
  show imm (.tuple _) = true
  rw [imm_tup]
  exact imms_of fun d m => by
    simp only [List.mem_cons, List.not_mem_nil, or_false] at m
    rcases m with rfl | rfl | rfl <;> exact Im.im _⟩
instance {f0 : α0 → D} {f1 : α1 → D} {f2 : α2 → D} {n0 n1 n2 : Nat} [Dpt f0 n0] [Dpt f1 n1] [Dpt f2 n2] : Dpt (z3 f0 f1 f2) (max n0 (max n1 (n2)) + 1) := ⟨fun p => by
  show PyData.canLay0 (.tuple _) = true
  simp only [PyData.canLay0, PyData.canLayAll0, Dpt.lay, Bool.and_self], fun p => by
  show PyData.depth (.tuple _) ≤ _
  simp only [PyData.depth, PyData.depthAll]
  have h0 := Dpt.dep (e := f0) (p.1)
  have h1 := Dpt.dep (e := f1) (p.2.1)
  have h2 := Dpt.dep (e := f2) (p.2.2)
  omega⟩
instance {f0 : α0 → D} {f1 : α1 → D} {f2 : α2 → D} [Ev f0] [Ev f1] [Ev f2] : Ev (z3 f0 f1 f2) := ⟨fun p q => by
  show PyData.eqv (.tuple _) (.tuple _) = true ↔ _
  simp only [PyData.eqv, PyData.eqvAll, Bool.and_eq_true, Ev.ev, and_true, Prod.ext_iff]⟩
instance {f0 : α0 → D} {f1 : α1 → D} {f2 : α2 → D} [Alk f0] [Alk f1] [Alk f2] : Alk (z3 f0 f1 f2) := ⟨fun p q => by
  show PySem.W.alike (.tuple _) (.tuple _) = true
  simp only [PySem.W.alike, PySem.W.alikeAll, Alk.alk, Bool.and_self]⟩
end
section
variable {α0 α1 α2 α3 : Type}
def z4 (f0 : α0 → D) (f1 : α1 → D) (f2 : α2 → D) (f3 : α3 → D) : α0 × α1 × α2 × α3 → D := fun p => .tuple [f0 p.1, f1 p.2.1, f2 p.2.2.1, f3 p.2.2.2]
instance {f0 : α0 → D} {f1 : α1 → D} {f2 : α2 → D} {f3 : α3 → D} [Im f0] [Im f1] [Im f2] [Im f3] : Im (z4 f0 f1 f2 f3) := ⟨fun p => by
  show imm (.tuple _) = true
  rw [imm_tup]
  exact imms_of fun d m => by
    simp only [List.mem_cons, List.not_mem_nil, or_false] at m
    rcases m with rfl | rfl | rfl | rfl <;> exact Im.im _⟩
instance {f0 : α0 → D} {f1 : α1 → D} {f2 : α2 → D} {f3 : α3 → D} {n0 n1 n2 n3 : Nat} [Dpt f0 n0] [Dpt f1 n1] [Dpt f2 n2] [Dpt f3 n3] : Dpt (z4 f0 f1 f2 f3) (max n0 (max n1 (max n2 (n3))) + 1) := ⟨fun p => by
  show PyData.canLay0 (.tuple _) = true
  simp only [PyData.canLay0, PyData.canLayAll0, Dpt.lay, Bool.and_self], fun p => by
  show PyData.depth (.tuple _) ≤ _
  simp only [PyData.depth, PyData.depthAll]
  have h0 := Dpt.dep (e := f0) (p.1)
  have h1 := Dpt.dep (e := f1) (p.2.1)
  have h2 := Dpt.dep (e := f2) (p.2.2.1)
  have h3 := Dpt.dep (e := f3) (p.2.2.2)
  omega⟩
instance {f0 : α0 → D} {f1 : α1 → D} {f2 : α2 → D} {f3 : α3 → D} [Ev f0] [Ev f1] [Ev f2] [Ev f3] : Ev (z4 f0 f1 f2 f3) := ⟨fun p q => by
  show PyData.eqv (.tuple _) (.tuple _) = true ↔ _
  simp only [PyData.eqv, PyData.eqvAll, Bool.and_eq_true, Ev.ev, and_true, Prod.ext_iff]⟩
instance {f0 : α0 → D} {f1 : α1 → D} {f2 : α2 → D} {f3 : α3 → D} [Alk f0] [Alk f1] [Alk f2] [Alk f3] : Alk (z4 f0 f1 f2 f3) := ⟨fun p q => by
  show PySem.W.alike (.tuple _) (.tuple _) = true
  simp only [PySem.W.alike, PySem.W.alikeAll, Alk.alk, Bool.and_self]⟩
end
section
variable {α0 α1 α2 α3 α4 : Type}
def z5 (f0 : α0 → D) (f1 : α1 → D) (f2 : α2 → D) (f3 : α3 → D) (f4 : α4 → D) : α0 × α1 × α2 × α3 × α4 → D := fun p => .tuple [f0 p.1, f1 p.2.1, f2 p.2.2.1, f3 p.2.2.2.1, f4 p.2.2.2.2]
instance {f0 : α0 → D} {f1 : α1 → D} {f2 : α2 → D} {f3 : α3 → D} {f4 : α4 → D} [Im f0] [Im f1] [Im f2] [Im f3] [Im f4] : Im (z5 f0 f1 f2 f3 f4) := ⟨fun p => by
  show imm (.tuple _) = true
  rw [imm_tup]
  exact imms_of fun d m => by
    simp only [List.mem_cons, List.not_mem_nil, or_false] at m
    rcases m with rfl | rfl | rfl | rfl | rfl <;> exact Im.im _⟩
instance {f0 : α0 → D} {f1 : α1 → D} {f2 : α2 → D} {f3 : α3 → D} {f4 : α4 → D} {n0 n1 n2 n3 n4 : Nat} [Dpt f0 n0] [Dpt f1 n1] [Dpt f2 n2] [Dpt f3 n3] [Dpt f4 n4] : Dpt (z5 f0 f1 f2 f3 f4) (max n0 (max n1 (max n2 (max n3 (n4)))) + 1) := ⟨fun p => by
  show PyData.canLay0 (.tuple _) = true
  simp only [PyData.canLay0, PyData.canLayAll0, Dpt.lay, Bool.and_self], fun p => by
  show PyData.depth (.tuple _) ≤ _
  simp only [PyData.depth, PyData.depthAll]
  have h0 := Dpt.dep (e := f0) (p.1)
  have h1 := Dpt.dep (e := f1) (p.2.1)
  have h2 := Dpt.dep (e := f2) (p.2.2.1)
  have h3 := Dpt.dep (e := f3) (p.2.2.2.1)
  have h4 := Dpt.dep (e := f4) (p.2.2.2.2)
  omega⟩
instance {f0 : α0 → D} {f1 : α1 → D} {f2 : α2 → D} {f3 : α3 → D} {f4 : α4 → D} [Ev f0] [Ev f1] [Ev f2] [Ev f3] [Ev f4] : Ev (z5 f0 f1 f2 f3 f4) := ⟨fun p q => by
  show PyData.eqv (.tuple _) (.tuple _) = true ↔ _
  simp only [PyData.eqv, PyData.eqvAll, Bool.and_eq_true, Ev.ev, and_true, Prod.ext_iff]⟩
instance {f0 : α0 → D} {f1 : α1 → D} {f2 : α2 → D} {f3 : α3 → D} {f4 : α4 → D} [Alk f0] [Alk f1] [Alk f2] [Alk f3] [Alk f4] : Alk (z5 f0 f1 f2 f3 f4) := ⟨fun p q => by
  show PySem.W.alike (.tuple _) (.tuple _) = true
  simp only [PySem.W.alike, PySem.W.alikeAll, Alk.alk, Bool.and_self]⟩
end
section
variable {α0 α1 α2 α3 α4 α5 : Type}
def z6 (f0 : α0 → D) (f1 : α1 → D) (f2 : α2 → D) (f3 : α3 → D) (f4 : α4 → D) (f5 : α5 → D) : α0 × α1 × α2 × α3 × α4 × α5 → D := fun p => .tuple [f0 p.1, f1 p.2.1, f2 p.2.2.1, f3 p.2.2.2.1, f4 p.2.2.2.2.1, f5 p.2.2.2.2.2]
instance {f0 : α0 → D} {f1 : α1 → D} {f2 : α2 → D} {f3 : α3 → D} {f4 : α4 → D} {f5 : α5 → D} [Im f0] [Im f1] [Im f2] [Im f3] [Im f4] [Im f5] : Im (z6 f0 f1 f2 f3 f4 f5) := ⟨fun p => by
  show imm (.tuple _) = true
  rw [imm_tup]
  exact imms_of fun d m => by
    simp only [List.mem_cons, List.not_mem_nil, or_false] at m
    rcases m with rfl | rfl | rfl | rfl | rfl | rfl <;> exact Im.im _⟩
instance {f0 : α0 → D} {f1 : α1 → D} {f2 : α2 → D} {f3 : α3 → D} {f4 : α4 → D} {f5 : α5 → D} {n0 n1 n2 n3 n4 n5 : Nat} [Dpt f0 n0] [Dpt f1 n1] [Dpt f2 n2] [Dpt f3 n3] [Dpt f4 n4] [Dpt f5 n5] : Dpt (z6 f0 f1 f2 f3 f4 f5) (max n0 (max n1 (max n2 (max n3 (max n4 (n5))))) + 1) := ⟨fun p => by
  show PyData.canLay0 (.tuple _) = true
  simp only [PyData.canLay0, PyData.canLayAll0, Dpt.lay, Bool.and_self], fun p => by
  show PyData.depth (.tuple _) ≤ _
  simp only [PyData.depth, PyData.depthAll]
  have h0 := Dpt.dep (e := f0) (p.1)
  have h1 := Dpt.dep (e := f1) (p.2.1)
  have h2 := Dpt.dep (e := f2) (p.2.2.1)
  have h3 := Dpt.dep (e := f3) (p.2.2.2.1)
  have h4 := Dpt.dep (e := f4) (p.2.2.2.2.1)
  have h5 := Dpt.dep (e := f5) (p.2.2.2.2.2)
  omega⟩
instance {f0 : α0 → D} {f1 : α1 → D} {f2 : α2 → D} {f3 : α3 → D} {f4 : α4 → D} {f5 : α5 → D} [Ev f0] [Ev f1] [Ev f2] [Ev f3] [Ev f4] [Ev f5] : Ev (z6 f0 f1 f2 f3 f4 f5) := ⟨fun p q => by
  show PyData.eqv (.tuple _) (.tuple _) = true ↔ _
  simp only [PyData.eqv, PyData.eqvAll, Bool.and_eq_true, Ev.ev, and_true, Prod.ext_iff]⟩
instance {f0 : α0 → D} {f1 : α1 → D} {f2 : α2 → D} {f3 : α3 → D} {f4 : α4 → D} {f5 : α5 → D} [Alk f0] [Alk f1] [Alk f2] [Alk f3] [Alk f4] [Alk f5] : Alk (z6 f0 f1 f2 f3 f4 f5) := ⟨fun p q => by
  show PySem.W.alike (.tuple _) (.tuple _) = true
  simp only [PySem.W.alike, PySem.W.alikeAll, Alk.alk, Bool.and_self]⟩
end
/-! rows: lists and tuples alike -/
def cutT {α : Type} (xs : List α) (lo hi : Option Int) : List α := (xs.drop (HT.sIx xs.length 0 lo)).take (HT.sIx xs.length xs.length hi - HT.sIx xs.length 0 lo)
theorem cutD_map {α : Type} {e : α → D} (xs : List α) (lo hi : Option Int) : cutD (xs.map e) lo hi = (cutT xs lo hi).map e := by
  unfold cutD cutT
  rw [List.length_map, List.map_take, List.map_drop]
class Sq (E : List α → D) (e : outParam (α → D)) : Prop where
  len : ∀ xs, gLen [E xs] = some (.int xs.length)
  ix : ∀ xs i, ixD (E xs) (.int i) = (atI xs i).map e
  items : ∀ xs, imms (xs.map e) = true → itemsD (E xs) = some (xs.map e)
  enum : ∀ xs, imms (xs.map e) = true → enumO (E xs) = some (enumD (xs.map e))
  list : ∀ xs, imms (xs.map e) = true → gList [E xs] = some (zL e xs)
  tuple : ∀ xs, imms (xs.map e) = true → gTuple [E xs] = some (zT e xs)
  tr : ∀ xs, trD (E xs) = some (!xs.isEmpty)
  mem : ∀ d xs, inD d (E xs) = inD d (zT e xs)
  sl : ∀ xs lo hi, imms (xs.map e) = true → sliceD (E xs) lo hi = some (E (cutT xs lo hi))
theorem atI_map {e : α → D} (xs : List α) (i : Int) : atI (xs.map e) i = (atI xs i).map e := by
  unfold atI
  rw [List.length_map]
  cases ixN xs.length i with
  | none => rfl
  | some j => simp [List.getElem?_map]
theorem isE_map {e : α → D} (xs : List α) : (xs.map e).isEmpty = xs.isEmpty := by cases xs <;> rfl
instance {e : α → D} : Sq (zL e) e := ⟨fun xs => by show some _ = _; rw [List.length_map], fun xs i => atI_map xs i, fun xs h => if_pos h, fun xs h => if_pos h, fun xs h => if_pos h, fun xs h => if_pos h, fun xs => by show some _ = _; rw [isE_map], fun d xs => by cases d <;> rfl, fun xs lo hi h => by show (if _ then _ else _) = _; rw [if_pos h, cutD_map]; rfl⟩
instance {e : α → D} : Sq (zT e) e := ⟨fun xs => by show some _ = _; rw [List.length_map], fun xs i => atI_map xs i, fun xs h => if_pos h, fun xs h => if_pos h, fun xs h => if_pos h, fun xs h => if_pos h, fun xs => by show some _ = _; rw [isE_map], fun d xs => rfl, fun xs lo hi h => by show (if _ then _ else _) = _; rw [if_pos h, cutD_map]; rfl⟩
/-! values of typed data -/
theorem eqD_sh {d e : D} (h1 : SeqAt.shaped d = true) (h2 : SeqAt.shaped e = true) : eqD d e = some (PyData.eqv d e) := by
  cases d <;> cases e <;> first | exact if_pos ⟨h1, h2⟩ | rfl | exact absurd h1 Bool.false_ne_true | exact absurd h2 Bool.false_ne_true
theorem Dpt.sh {e : α → D} {n : Nat} [Dpt e n] (hn : Nat.ble n 64 = true) (a : α) : SeqAt.shaped (e a) = true := by
  unfold SeqAt.shaped
  rw [Dpt.lay a]
  have := Dpt.dep (e := e) a
  have hn := Nat.le_of_ble_eq_true hn
  simp; omega
theorem Ev.dec {e : α → D} [Ev e] [DecidableEq α] (a b : α) : PyData.eqv (e a) (e b) = decide (a = b) := by
  by_cases h : a = b
  · rw [decide_eq_true h]; exact (Ev.ev a b).mpr h
  · rw [decide_eq_false h]
    cases q : PyData.eqv (e a) (e b) with
    | false => rfl
    | true => exact absurd ((Ev.ev a b).mp q) h
theorem p_eq {e : α → D} {n : Nat} [Dpt e n] [Ev e] [DecidableEq α] {a b : α} (hn : Nat.ble n 64 = true := by rfl) : gEq [e a, e b] = some (.bool (decide (a = b))) := by
  unfold gEq
  dsimp only
  rw [eqD_sh (Dpt.sh hn a) (Dpt.sh hn b), Ev.dec]; rfl
theorem p_ne {e : α → D} {n : Nat} [Dpt e n] [Ev e] [DecidableEq α] {a b : α} (hn : Nat.ble n 64 = true := by rfl) : gNe [e a, e b] = some (.bool (!decide (a = b))) := by
  unfold gNe
  dsimp only
  rw [eqD_sh (Dpt.sh hn a) (Dpt.sh hn b), Ev.dec]; rfl
theorem inD_sh {d : D} {ds : List D} (h1 : SeqAt.shaped d = true) (h2 : SeqAt.shaped (.tuple ds) = true) : inD d (.tuple ds) = some (ds.any fun z => PyData.eqv z d) := by
  have e : (if flatD d = true ∧ ds.all flatD = true then some (ds.any fun z => PyData.eqv z d) else if SeqAt.shaped d = true ∧ SeqAt.shaped (.tuple ds) = true then some (ds.any fun z => PyData.eqv z d) else none) = some (ds.any fun z => PyData.eqv z d) := by
    split
    · rfl
    · rw [if_pos ⟨h1, h2⟩]
  cases d <;> exact e
theorem any_dec {e : α → D} [Ev e] [DecidableEq α] (a : α) : ∀ xs : List α, ((xs.map e).any fun z => PyData.eqv z (e a)) = decide (a ∈ xs)
  | [] => rfl
  | x :: r => by
    rw [List.map_cons, List.any_cons, any_dec a r, Ev.dec]
    by_cases h : x = a
    · subst h; simp
    · have : ¬ a = x := fun q => h q.symm
      simp [h, this]
theorem p_in {E : List α → D} {e : α → D} {n : Nat} [Sq E e] [Dpt e n] [Ev e] [DecidableEq α] {a : α} {xs : List α} [ix : Decidable (a ∈ xs)] (hn : Nat.ble n 63 = true := by rfl) : gIn [e a, E xs] = some (.bool (decide (a ∈ xs))) := by
  have h64 : Nat.ble n 64 = true := Nat.ble_eq_true_of_le (Nat.le_trans (Nat.le_of_ble_eq_true hn) (by decide))
  unfold gIn
  dsimp only
  rw [Sq.mem, show zT e xs = .tuple (xs.map e) from rfl, inD_sh (Dpt.sh h64 a) (Dpt.sh (e := zT e) hn xs), any_dec]
  simp only [Option.map_some]
  congr
theorem p_nin {E : List α → D} {e : α → D} {n : Nat} [Sq E e] [Dpt e n] [Ev e] [DecidableEq α] {a : α} {xs : List α} [ix : Decidable (a ∈ xs)] (hn : Nat.ble n 63 = true := by rfl) : gNin [e a, E xs] = some (.bool (!decide (a ∈ xs))) := by
  have h64 : Nat.ble n 64 = true := Nat.ble_eq_true_of_le (Nat.le_trans (Nat.le_of_ble_eq_true hn) (by decide))
  unfold gNin
  dsimp only
  rw [Sq.mem, show zT e xs = .tuple (xs.map e) from rfl, inD_sh (Dpt.sh h64 a) (Dpt.sh (e := zT e) hn xs), any_dec]
  simp only [Option.map_some]
  congr
theorem p_len {E : List α → D} {e : α → D} [Sq E e] {xs : List α} : gLen [E xs] = some (zI xs.length) := Sq.len xs
theorem p_lenS {s : TX} : gLen [zS s] = some (zI s.s.length) := by
  have h := s.ok
  unfold okS at h
  rw [Bool.and_eq_true, decide_eq_true_eq] at h
  exact v_len_str h.2
theorem p_ix {E : List α → D} {e : α → D} [Sq E e] [Im e] {xs : List α} {i : Int} {x : α} (h : atI xs i = some x) : gIx [E xs, zI i] = some (e x) := by
  unfold gIx
  dsimp only [zI]
  rw [Sq.ix, h]
  exact if_pos (Im.im x)
/-- a place of a tuple with a fixed shape -/
theorem p_ixc {e : β → D} [Im e] {t : D} {i : Int} {x : β} (h : ixD t (.int i) = some (e x)) : gIx [t, .int i] = some (e x) := by
  unfold gIx
  dsimp only
  rw [h]
  exact if_pos (Im.im x)
def lenO (n : Nat) : Bool := decide (n ≤ 1000000)
def addO (xs ys : List α) : Option (List α) := if xs.length + ys.length ≤ 1000000 then some (xs ++ ys) else none
theorem p_addT {e : α → D} [Im e] {xs ys zs : List α} (h : addO xs ys = some zs) : gAdd [zT e xs, zT e ys] = some (zT e zs) := by
  unfold addO at h
  split at h
  · rename_i hl
    cases h
    show (if _ then _ else _) = _
    rw [if_pos ⟨Im.s xs, Im.s ys, by rw [List.length_map, List.length_map]; exact hl⟩, ← List.map_append]; rfl
  · cases h
theorem p_addL {e : α → D} [Im e] {xs ys zs : List α} (h : addO xs ys = some zs) : gAdd [zL e xs, zL e ys] = some (zL e zs) := by
  unfold addO at h
  split at h
  · rename_i hl
    cases h
    show (if _ then _ else _) = _
    rw [if_pos ⟨Im.s xs, Im.s ys, by rw [List.length_map, List.length_map]; exact hl⟩, ← List.map_append]; rfl
  · cases h
def addS (a b : TX) : Option TX := if h : okS (a.s ++ b.s) = true then (if a.s.length + b.s.length ≤ 1000000 then some ⟨a.s ++ b.s, h⟩ else none) else none
theorem p_addS {a b c : TX} (h : addS a b = some c) : gAdd [zS a, zS b] = some (zS c) := by
  unfold addS at h
  split at h
  · split at h
    · rename_i hl
      cases h
      exact if_pos hl
    · cases h
  · cases h
def tupO (n : Nat) : Option Unit := if n ≤ 1000000 then some () else none
theorem p_list {E : List α → D} {e : α → D} [Sq E e] [Im e] {xs : List α} : gList [E xs] = some (zL e xs) := Sq.list xs (Im.s xs)
theorem p_tuple {E : List α → D} {e : α → D} [Sq E e] [Im e] {xs : List α} : gTuple [E xs] = some (zT e xs) := Sq.tuple xs (Im.s xs)
theorem p_items {E : List α → D} {e : α → D} [Sq E e] [Im e] {xs : List α} : itemsD (E xs) = some (xs.map e) := Sq.items xs (Im.s xs)
def enumT (xs : List α) : List (Int × α) := xs.mapIdx fun i x => ((i : Int), x)
theorem mapIdx_map' {f : α → β} {g : Nat → β → γ} (xs : List α) : (xs.map f).mapIdx g = xs.mapIdx fun i x => g i (f x) := by
  apply List.ext_getElem?
  intro i
  simp only [List.getElem?_mapIdx, List.getElem?_map, Option.map_map]; rfl
theorem p_enum {E : List α → D} {e : α → D} [Sq E e] [Im e] {xs : List α} : enumO (E xs) = some ((enumT xs).map (z2 zI e)) := by
  rw [Sq.enum xs (Im.s xs)]
  unfold enumD enumT
  rw [mapIdx_map']
  congr 1
  apply List.ext_getElem?
  intro i
  simp only [List.getElem?_mapIdx, List.getElem?_map, Option.map_map]; rfl
def intsT (lo : Int) (n : Nat) : List Int := (List.range n).map fun (i : Nat) => lo + (i : Int)
def rng1 (n : Int) : Option (List Int) := if -1000000000 ≤ n ∧ n ≤ 1000000000 then some (intsT 0 n.toNat) else none
def rng2 (m n : Int) : Option (List Int) := if (-1000000000 ≤ m ∧ m ≤ 1000000000) ∧ -1000000000 ≤ n ∧ n ≤ 1000000000 then some (intsT m (n - m).toNat) else none
theorem rangeD_ints (lo : Int) (n : Nat) : rangeD lo n = (intsT lo n).map zI := by
  unfold rangeD intsT
  rw [List.map_map]; rfl
theorem p_rng1 {n : Int} {xs : List Int} (h : rng1 n = some xs) : gRng1 [zI n] = some (xs.map zI) := by
  unfold rng1 at h
  split at h
  · rename_i hl
    cases h
    rw [← rangeD_ints]
    exact if_pos hl
  · cases h
theorem p_rng2 {m n : Int} {xs : List Int} (h : rng2 m n = some xs) : gRng2 [zI m, zI n] = some (xs.map zI) := by
  unfold rng2 at h
  split at h
  · rename_i hl
    cases h
    rw [← rangeD_ints]
    exact if_pos hl
  · cases h
def guardO (p : Prop) [Decidable p] : Option Unit := if p then some () else none
theorem guardO_of {p : Prop} [Decidable p] {u : Unit} (h : guardO p = some u) : p := by
  unfold guardO at h
  split at h
  · assumption
  · cases h
def mulO (i j : Int) : Option Int := if CMul i j then some (i * j) else none
theorem p_mul {i j k : Int} (h : mulO i j = some k) : gMul [zI i, zI j] = some (zI k) := by
  unfold mulO at h
  split at h
  · rename_i hl; cases h; exact if_pos hl
  · cases h
def divO (i j : Int) : Option Int := if CDiv i j then some (i / j) else none
theorem p_div {i j k : Int} (h : divO i j = some k) : gFdiv [zI i, zI j] = some (zI k) := by
  unfold divO at h
  split at h
  · rename_i hl; cases h; exact if_pos hl
  · cases h
def modO (i j : Int) : Option Int := if 0 < j then some (i % j) else none
theorem p_mod {i j k : Int} (h : modO i j = some k) : gMod [zI i, zI j] = some (zI k) := by
  unfold modO at h
  split at h
  · rename_i hl; cases h; exact if_pos hl
  · cases h
def min2 (i j : Int) : Int := if j < i then j else i
def max2 (i j : Int) : Int := if j > i then j else i
theorem min2_eq (i j : Int) : min2 i j = min i j := by unfold min2; split <;> omega
theorem max2_eq (i j : Int) : max2 i j = max i j := by unfold max2; split <;> omega
theorem intsD_map (xs : List Int) : intsD (xs.map zI) = some xs := by
  induction xs with
  | nil => rfl
  | cons x r ih =>
    show (intsD (r.map zI)).map (x :: ·) = _
    rw [ih]; rfl
theorem boolsD_map (xs : List Bool) : boolsD (xs.map zB) = some xs := by
  induction xs with
  | nil => rfl
  | cons x r ih =>
    show (boolsD (r.map zB)).map (x :: ·) = _
    rw [ih]; rfl
theorem p_sum {xs : List Int} : gSum [zL zI xs] = some (zI xs.sum) := by
  show (intsD (xs.map zI)).map _ = _
  rw [intsD_map]; rfl
theorem p_all {xs : List Bool} : gAll [zL zB xs] = some (zB (xs.all id)) := by
  show (boolsD (xs.map zB)).map _ = _
  rw [boolsD_map]; rfl
theorem p_any {xs : List Bool} : gAny [zL zB xs] = some (zB (xs.any id)) := by
  show (boolsD (xs.map zB)).map _ = _
  rw [boolsD_map]; rfl
theorem p_sl11 {E : List α → D} {e : α → D} [Sq E e] [Im e] {xs : List α} {i j : Int} : gSl11 [E xs, zI i, zI j] = some (E (cutT xs (some i) (some j))) := Sq.sl xs _ _ (Im.s xs)
theorem p_sl10 {E : List α → D} {e : α → D} [Sq E e] [Im e] {xs : List α} {i : Int} : gSl10 [E xs, zI i] = some (E (cutT xs (some i) none)) := Sq.sl xs _ _ (Im.s xs)
theorem p_sl01 {E : List α → D} {e : α → D} [Sq E e] [Im e] {xs : List α} {j : Int} : gSl01 [E xs, zI j] = some (E (cutT xs none (some j))) := Sq.sl xs _ _ (Im.s xs)
/-! texts -/
def mkSt (s : Str) : Option TX := if h : okS s = true then some ⟨s, h⟩ else none
def splitO (y : Str) (z : TX) : Option (List TX) := if 0 < y.length then (Txt.split z.s y).mapM mkSt else none
theorem mkSts : ∀ {xs : List Str} {ys : List TX}, xs.mapM mkSt = some ys → ys.map zS = xs.map PyData.str
  | [], ys, h => by cases h; rfl
  | x :: r, ys, h => by
    rw [List.mapM_cons] at h
    unfold mkSt at h
    by_cases hx : okS x = true
    · rw [dif_pos hx] at h
      cases hr : r.mapM mkSt with
      | none =>
        unfold mkSt at hr
        rw [hr] at h; cases h
      | some zs =>
        have ih := mkSts hr
        unfold mkSt at hr
        rw [hr] at h
        cases h
        rw [List.map_cons, List.map_cons, ih]; rfl
    · rw [dif_neg hx] at h; cases h
theorem p_split {y : Str} {z : TX} {ys : List TX} (h : splitO y z = some ys) : gSplitK y [zS z] = some (zL zS ys) := by
  unfold splitO at h
  split at h
  · rename_i hy
    have hz := z.ok
    unfold okS at hz
    rw [Bool.and_eq_true, decide_eq_true_eq] at hz
    show (if _ then _ else _) = _
    rw [if_pos ⟨hy, hz.2⟩, ← mkSts h]; rfl
  · cases h
/-! dicts -/
class Ky (e : α → D) (k : outParam (α → Key)) : Prop where
  key : ∀ a, keyOf (e a) = some (k a)
  keyD : ∀ a, keyD (k a) = e a
  inj : ∀ a b, k a = k b → a = b
instance : Ky zI Sum.inl := ⟨fun _ => rfl, fun _ => rfl, fun _ _ h => Sum.inl.inj h⟩
instance : Ky zS (fun s => Sum.inr s.s) := ⟨fun _ => rfl, fun _ => rfl, fun _ _ h => TX.ext (Sum.inr.inj h)⟩
def zK (ek : α → D) (ev : β → D) : List (α × β) → D := fun kvs => .dict (kvs.map fun p => (ek p.1, ev p.2))
def getT [DecidableEq α] (kvs : List (α × β)) (k : α) : Option β := (kvs.find? fun p => decide (p.1 = k)).map (·.2)
def putT [DecidableEq α] (kvs : List (α × β)) (k : α) (v : β) : List (α × β) := if kvs.any (fun p => decide (p.1 = k)) = true then kvs.map (fun p => if p.1 = k then (p.1, v) else p) else kvs ++ [(k, v)]
def putO [DecidableEq α] (kvs : List (α × β)) (k : α) (v : β) : Option (List (α × β)) := if kvs.length ≤ 1000000 then some (putT kvs k v) else none
theorem hasK_e [DecidableEq α] {ek : α → D} {ky : α → Key} [Ky ek ky] {k : α} {p : α × β} {ev : β → D} : hasK (ky k) (ek p.1, ev p.2) = decide (p.1 = k) := by
  unfold hasK
  dsimp only
  rw [Ky.key (e := ek) p.1]
  by_cases h : p.1 = k
  · rw [h]; simp
  · rw [decide_eq_false h]
    exact decide_eq_false fun q => h (Ky.inj ek _ _ (Option.some.inj q))
theorem findD_e [DecidableEq α] {ek : α → D} {ky : α → Key} [Ky ek ky] {ev : β → D} (k : α) : ∀ kvs : List (α × β), findD (kvs.map fun p => (ek p.1, ev p.2)) (ky k) = (getT kvs k).map ev
  | [] => rfl
  | p :: r => by
    have ih := findD_e (ek := ek) (ev := ev) k r
    unfold findD getT at ih ⊢
    rw [List.map_cons, List.find?_cons, List.find?_cons, hasK_e]
    cases decide (p.1 = k) with
    | true => rfl
    | false => exact ih
theorem p_dget [DecidableEq α] {ek : α → D} {ky : α → Key} [Ky ek ky] {ev : β → D} [Im ev] {kvs : List (α × β)} {k : α} {v : β} (h : getT kvs k = some v) : gDGet [zK ek ev kvs, ek k] = some (ev v) := by
  unfold gDGet zK
  dsimp only
  rw [Ky.key (e := ek) k]
  dsimp only
  rw [findD_e, h]
  exact if_pos (Im.im v)
theorem plain_e {ek : α → D} {ky : α → Key} [Ky ek ky] {ev : β → D} [Im ev] (kvs : List (α × β)) : plainD (kvs.map fun p => (ek p.1, ev p.2)) = true := by
  unfold plainD
  rw [List.all_map, List.all_eq_true]
  intro p _
  show ((keyOf (ek p.1)).isSome && imm (ev p.2)) = true
  rw [Ky.key (e := ek) p.1, Im.im]; rfl
theorem putD_e [DecidableEq α] {ek : α → D} {ky : α → Key} [Ky ek ky] {ev : β → D} (kvs : List (α × β)) (k : α) (v : β) : putD (kvs.map fun p => (ek p.1, ev p.2)) (ky k) (ev v) = (putT kvs k v).map fun p => (ek p.1, ev p.2) := by
  have ha : (kvs.map fun p => (ek p.1, ev p.2)).any (hasK (ky k)) = kvs.any fun p => decide (p.1 = k) := by
    rw [List.any_map]
    congr 1
    funext p
    exact hasK_e
  unfold putD putT
  rw [ha]
  split
  · rw [List.map_map, List.map_map]
    congr 1
    funext p
    show (if hasK (ky k) (ek p.1, ev p.2) = true then _ else _) = _
    rw [hasK_e]
    by_cases h : p.1 = k
    · rw [if_pos (decide_eq_true h)]
      show _ = (ek (if p.1 = k then (p.1, v) else p).1, ev (if p.1 = k then (p.1, v) else p).2)
      rw [if_pos h]
    · rw [if_neg (by rw [decide_eq_false h]; exact Bool.false_ne_true)]
      show _ = (ek (if p.1 = k then (p.1, v) else p).1, ev (if p.1 = k then (p.1, v) else p).2)
      rw [if_neg h]
  · rw [List.map_append, Ky.keyD (e := ek)]; rfl
/-! sorted -/
def leT (e : α → D) (a b : α) : Bool := PySem.W.dataLe false id (e a) (e b)
def sortT (e : α → D) (xs : List α) : List α := xs.mergeSort (leT e)
class Srt (e : α → D) : Prop where
  srt : ∀ xs : List α, sortB (xs.map e) = true
theorem alike_map {e : α → D} [Alk e] (xs : List α) : alikeB (xs.map e) = true := by
  unfold alikeB
  rw [List.all_eq_true]
  intro d hd
  rw [List.all_eq_true]
  intro f hf
  obtain ⟨a, _, rfl⟩ := List.mem_map.mp hd
  obtain ⟨b, _, rfl⟩ := List.mem_map.mp hf
  exact Alk.alk a b
theorem p_sort {e : α → D} {n : Nat} [Im e] [Alk e] [Srt e] [Dpt e n] {xs : List α} (hn : Nat.ble n 50 = true := by rfl) : gSorted [zL e xs] = some (zL e (sortT e xs)) := by
  have hn := Nat.le_of_ble_eq_true hn
  have h : ((xs.map e).all fun d => PyData.canLay0 d && decide (d.depth ≤ 50)) = true := by
    rw [List.all_eq_true]
    intro d hd
    obtain ⟨a, _, rfl⟩ := List.mem_map.mp hd
    have := Dpt.dep (e := e) a
    rw [Dpt.lay a, decide_eq_true (by omega)]; rfl
  show (if _ then _ else _) = _
  rw [if_pos ⟨Im.s xs, alike_map xs, Srt.srt xs, h⟩]
  unfold sortT zL
  rw [← List.map_mergeSort (r := leT e) (f := e) (fun a _ b _ => rfl)]
theorem srt_flat {e : α → D} (h : ∀ a, (match e a with | .tuple _ => false | .none => false | _ => true) = true) (xs : List α) : sortB (xs.map e) = true := by
  unfold sortB
  rw [Bool.or_eq_true]
  refine .inr (List.all_eq_true.mpr fun d hd => ?_)
  obtain ⟨a, _, rfl⟩ := List.mem_map.mp hd
  exact h a
theorem srt_tup {e : α → D} (h : ∀ a, (match e a with | .tuple (_ :: _) => true | _ => false) = true) (xs : List α) : sortB (xs.map e) = true := by
  unfold sortB
  rw [Bool.or_eq_true]
  refine .inl (List.all_eq_true.mpr fun d hd => ?_)
  obtain ⟨a, _, rfl⟩ := List.mem_map.mp hd
  exact h a
instance : Srt zI := ⟨srt_flat fun _ => rfl⟩
instance : Srt zS := ⟨srt_flat fun _ => rfl⟩
instance : Srt zB := ⟨srt_flat fun _ => rfl⟩
end
instance {α0 : Type} {f0 : α0 → D} : Srt (z1 f0) := ⟨srt_tup fun _ => rfl⟩
instance {α0 α1 : Type} {f0 : α0 → D} {f1 : α1 → D} : Srt (z2 f0 f1) := ⟨srt_tup fun _ => rfl⟩
instance {α0 α1 α2 : Type} {f0 : α0 → D} {f1 : α1 → D} {f2 : α2 → D} : Srt (z3 f0 f1 f2) := ⟨srt_tup fun _ => rfl⟩
instance {α0 α1 α2 α3 : Type} {f0 : α0 → D} {f1 : α1 → D} {f2 : α2 → D} {f3 : α3 → D} : Srt (z4 f0 f1 f2 f3) := ⟨srt_tup fun _ => rfl⟩
instance {α0 α1 α2 α3 α4 : Type} {f0 : α0 → D} {f1 : α1 → D} {f2 : α2 → D} {f3 : α3 → D} {f4 : α4 → D} : Srt (z5 f0 f1 f2 f3 f4) := ⟨srt_tup fun _ => rfl⟩
instance {α0 α1 α2 α3 α4 α5 : Type} {f0 : α0 → D} {f1 : α1 → D} {f2 : α2 → D} {f3 : α3 → D} {f4 : α4 → D} {f5 : α5 → D} : Srt (z6 f0 f1 f2 f3 f4 f5) := ⟨srt_tup fun _ => rfl⟩
end DL
set_option maxHeartbeats 1000000
/-! DL22: a combinator follows a typed mirror. -/
namespace DL
open PySem PySem.Spec PyProof.Rows L2
section
variable {α β γ ρ σ τ : Type}
/-- what f gives where the typed mirror t gives b -/
def SimX (f : EM α) (δ : DEnv) (t : Option β) (K : β → α → DEnv → Prop) : Prop := ∀ b, t = some b → ∃ a δ', f δ = some (.ok a δ') ∧ K b a δ'
def bnd (a : σ) (k : σ → τ) : τ := k a
variable {f : EM α} {δ δ1 δ2 : DEnv} {t : Option β} {K : β → α → DEnv → Prop}
theorem sx_bnd {a : σ} {k : σ → Option β} (h : SimX f δ (k a) K) : SimX f δ (bnd a k) K := h
theorem sx_done {b : β} {a : α} {δ' : DEnv} (h : f δ = some (.ok a δ')) (k : K b a δ') : SimX f δ (some b) K := fun _ e => by
  cases e
  exact ⟨a, δ', h, k⟩
theorem sx_hoist {t1 : Option σ} {k : σ → Option β} (h : ∀ x, t1 = some x → SimX f δ (k x) K) : SimX f δ (t1.bind k) K := fun b e => by
  cases q : t1 with
  | none => rw [q] at e; cases e
  | some x => rw [q] at e; exact h x q b e
/-- a part of an expression that is reckoned apart -/
theorem sx_blk {fe : EM ρ} {δe : DEnv} {t1 : Option σ} {k : σ → Option β} {V : σ → ρ} {E : σ → DEnv} (hs : SimX fe δe t1 fun b a δ' => a = V b ∧ δ' = E b) (h : ∀ b, fe δe = some (.ok (V b) (E b)) → SimX f δ (k b) K) : SimX f δ (t1.bind k) K := fun b e => by
  cases q : t1 with
  | none => rw [q] at e; cases e
  | some x =>
    rw [q] at e
    obtain ⟨a, δ', h1, h2, h3⟩ := hs x q
    subst h2 h3
    exact h x h1 b e
theorem sx_if {c : Bool} {t1 t2 : Option β} (h1 : c = true → SimX f δ t1 K) (h2 : c = false → SimX f δ t2 K) : SimX f δ (if c = true then t1 else t2) K := by
  cases c
  · exact h2 rfl
  · exact h1 rfl
/-! expressions with branches -/
theorem sx_ifE {T : EM Bool} {f g : EM D} {c : Bool} {t1 t2 : Option β} {K : β → D → DEnv → Prop} (h : T δ = some (.ok c δ1)) (h1 : SimX f δ1 t1 K) (h2 : SimX g δ1 t2 K) : SimX (cIfE T f g) δ (if c = true then t1 else t2) K := by
  cases c
  · intro b e
    obtain ⟨a, δ', e1, k⟩ := h2 b e
    exact ⟨a, δ', r_ifE h e1, k⟩
  · intro b e
    obtain ⟨a, δ', e1, k⟩ := h1 b e
    exact ⟨a, δ', r_ifE h e1, k⟩
theorem sx_and {T g : EM Bool} {c : Bool} {t : Option β} {b0 : β} {K : β → Bool → DEnv → Prop} (h : T δ = some (.ok c δ1)) (h1 : SimX g δ1 t K) (k : K b0 false δ1) : SimX (cAnd T g) δ (if c = true then t else some b0) K := by
  cases c
  · intro b e
    cases e
    exact ⟨_, _, r_and h rfl, k⟩
  · intro b e
    obtain ⟨a, δ', e1, k⟩ := h1 b e
    exact ⟨a, δ', r_and h e1, k⟩
theorem sx_or {T g : EM Bool} {c : Bool} {t : Option β} {b0 : β} {K : β → Bool → DEnv → Prop} (h : T δ = some (.ok c δ1)) (h1 : SimX g δ1 t K) (k : K b0 true δ1) : SimX (cOr T g) δ (if c = true then some b0 else t) K := by
  cases c
  · intro b e
    obtain ⟨a, δ', e1, k⟩ := h1 b e
    exact ⟨a, δ', r_or h e1, k⟩
  · intro b e
    cases e
    exact ⟨_, _, r_or h rfl, k⟩
theorem sx_andV {T g : EM D} {c : Bool} {t : Option β} {b0 : β} {K : β → D → DEnv → Prop} (h : T δ = some (.ok (zB c) δ1)) (h1 : SimX g δ1 t K) (k : K b0 (zB false) δ1) : SimX (cAndV T g) δ (if c = true then t else some b0) K := by
  cases c
  · intro b e
    cases e
    exact ⟨_, _, r_andV h rfl, k⟩
  · intro b e
    obtain ⟨a, δ', e1, k⟩ := h1 b e
    exact ⟨a, δ', r_andV h e1, k⟩
theorem sx_orV {T g : EM D} {c : Bool} {t : Option β} {b0 : β} {K : β → D → DEnv → Prop} (h : T δ = some (.ok (zB c) δ1)) (h1 : SimX g δ1 t K) (k : K b0 (zB true) δ1) : SimX (cOrV T g) δ (if c = true then some b0 else t) K := by
  cases c
  · intro b e
    obtain ⟨a, δ', e1, k⟩ := h1 b e
    exact ⟨a, δ', r_orV h e1, k⟩
  · intro b e
    cases e
    exact ⟨_, _, r_orV h rfl, k⟩
/-! both parts without a hitch -/
theorem x_and {T g : EM Bool} {a b : Bool} (h : T δ = some (.ok a δ1)) (h1 : g δ1 = some (.ok b δ1)) : cAnd T g δ = some (.ok (a && b) δ1) := r_and h (by cases a; rfl; exact h1)
theorem x_or {T g : EM Bool} {a b : Bool} (h : T δ = some (.ok a δ1)) (h1 : g δ1 = some (.ok b δ1)) : cOr T g δ = some (.ok (a || b) δ1) := r_or h (by cases a; exact h1; rfl)
theorem x_andV {T g : EM D} {a b : Bool} (h : T δ = some (.ok (zB a) δ1)) (h1 : g δ1 = some (.ok (zB b) δ1)) : cAndV T g δ = some (.ok (zB (a && b)) δ1) := r_andV h (by cases a; rfl; exact h1)
theorem x_orV {T g : EM D} {a b : Bool} (h : T δ = some (.ok (zB a) δ1)) (h1 : g δ1 = some (.ok (zB b) δ1)) : cOrV T g δ = some (.ok (zB (a || b)) δ1) := r_orV h (by cases a; exact h1; rfl)
theorem x_ifE {T : EM Bool} {f g : EM D} {c : Bool} {e : σ → D} {x y : σ} (h : T δ = some (.ok c δ1)) (h1 : f δ1 = some (.ok (e x) δ1)) (h2 : g δ1 = some (.ok (e y) δ1)) : cIfE T f g δ = some (.ok (e (if c = true then x else y)) δ1) := r_ifE h (by cases c; exact h2; exact h1)
theorem x_un {f : EM D} {e : σ → D} {o : Option σ} {x : σ} (h : o = some x) (p : f δ = some (.ok (zO e o) δ1)) : f δ = some (.ok (e x) δ1) := by subst h; exact p
/-! statements -/
theorem ss_asg {i : Nat} {f : EM D} {rest : EM Fl} {a : σ} {e : σ → D} {k : σ → Option β} {E : σ → DEnv} {K : β → Fl → DEnv → Prop} (h : f δ = some (.ok (e a) δ1)) (hi : Nat.blt i δ1.length = true) (he : ∀ x, δ1.set i (some (e x)) = E x) (hr : ∀ x, SimX rest (E x) (k x) K) : SimX (cSeq (cAsg i f) rest) δ (bnd a k) K := fun b q => by
  obtain ⟨fl, δ', e1, hk⟩ := hr a b q
  refine ⟨fl, δ', r_seq (r_asg h hi) ?_, hk⟩
  rw [he]; exact e1
/-- several names at once -/
theorem ss_asgT {is : List Nat} {f : EM D} {rest : EM Fl} {a : σ} {e : σ → D} {k : σ → Option β} {E : σ → DEnv} {K : β → Fl → DEnv → Prop} (h : f δ = some (.ok (e a) δ1)) (he : ∀ x, (match e x with | .tuple ds => setsD is ds δ1 | _ => none) = some (E x)) (hr : ∀ x, SimX rest (E x) (k x) K) : SimX (cSeq (cAsgT is f) rest) δ (bnd a k) K := fun b q => by
  obtain ⟨fl, δ', e1, hk⟩ := hr a b q
  refine ⟨fl, δ', r_seq (δ1 := E a) ?_ e1, hk⟩
  have hh := he a
  split at hh
  · rename_i ds hd
    rw [hd] at h
    exact r_asgT h hh
  · cases hh
theorem ss_drop {f : EM D} {rest : EM Fl} {d : D} {K : β → Fl → DEnv → Prop} (h : f δ = some (.ok d δ1)) (hr : SimX rest δ1 t K) : SimX (cSeq (cDrop f) rest) δ t K := fun b q => by
  obtain ⟨fl, δ', e1, hk⟩ := hr b q
  exact ⟨fl, δ', r_seq (r_drop h) e1, hk⟩
theorem ss_augI {i : Nat} {g : Int → Int → Int} {f : EM D} {rest : EM Fl} {a c : Int} {k : Int → Option β} {E : Int → DEnv} {K : β → Fl → DEnv → Prop} (h0 : δ[i]? = some (some (zI a))) (h : f δ = some (.ok (zI c) δ1)) (hi : Nat.blt i δ1.length = true) (he : ∀ x, δ1.set i (some (zI x)) = E x) (hr : ∀ x, SimX rest (E x) (k x) K) : SimX (cSeq (cAugI i g f) rest) δ (bnd (g a c) k) K := fun b q => by
  obtain ⟨fl, δ', e1, hk⟩ := hr _ b q
  refine ⟨fl, δ', r_seq (r_augI h0 h hi) ?_, hk⟩
  rw [← he] at e1; exact e1
def appO (xs : List σ) (x : σ) : Option (List σ) := if xs.length < 1000000 then some (xs ++ [x]) else none
theorem ss_app {j : Nat} {f : EM D} {rest : EM Fl} {e : σ → D} {xs0 xs : List σ} {x : σ} {k : List σ → Option β} {E : List σ → DEnv} {K : β → Fl → DEnv → Prop} (h0 : δ[j]? = some (some (zL e xs0))) (h : f δ = some (.ok (e x) δ1)) (h1 : δ1[j]? = some (some (zL e xs))) (he : ∀ ys, δ1.set j (some (zL e ys)) = E ys) (hr : ∀ ys, SimX rest (E ys) (k ys) K) : SimX (cSeq (cApp j f) rest) δ ((appO xs x).bind k) K := sx_hoist fun ys hy b q => by
  unfold appO at hy
  split at hy
  · rename_i hl
    cases hy
    obtain ⟨fl, δ', e1, hk⟩ := hr _ b q
    refine ⟨fl, δ', r_seq (r_app h0 h h1 (by rw [List.length_map]; exact hl)) ?_, hk⟩
    rw [← he] at e1
    unfold zL at e1
    rw [List.map_append] at e1
    exact e1
  · cases hy
def setO (xs : List σ) (i : Int) (x : σ) : Option (List σ) := (ixN xs.length i).map fun k => xs.set k x
theorem ss_setI {j : Nat} {fe fi : EM D} {rest : EM Fl} {e : σ → D} {xs0 xs : List σ} {x : σ} {i : Int} {k : List σ → Option β} {E : List σ → DEnv} {K : β → Fl → DEnv → Prop} (h0 : δ[j]? = some (some (zL e xs0))) (h : fe δ = some (.ok (e x) δ1)) (hi : fi δ1 = some (.ok (zI i) δ2)) (h1 : δ2[j]? = some (some (zL e xs))) (he : ∀ ys, δ2.set j (some (zL e ys)) = E ys) (hr : ∀ ys, SimX rest (E ys) (k ys) K) : SimX (cSeq (cSetI j fe fi) rest) δ ((setO xs i x).bind k) K := sx_hoist fun ys hy b q => by
  unfold setO at hy
  cases hn : ixN xs.length i with
  | none => rw [hn] at hy; cases hy
  | some n =>
    rw [hn] at hy
    cases hy
    obtain ⟨fl, δ', e1, hk⟩ := hr _ b q
    refine ⟨fl, δ', r_seq (r_setI h0 h hi h1 (by rw [List.length_map]; exact hn)) ?_, hk⟩
    rw [← he] at e1
    unfold zL at e1
    rw [List.map_set] at e1
    exact e1
theorem ss_augSI {j : Nat} {gg : Int → Int → Int} {fi fe : EM D} {rest : EM Fl} {xs0 xs : List Int} {old c i : Int} {k : List Int → Option β} {E : List Int → DEnv} {K : β → Fl → DEnv → Prop} (h0 : δ[j]? = some (some (zL zI xs0))) (hi : fi δ = some (.ok (zI i) δ1)) (h1 : δ1[j]? = some (some (zL zI xs))) (ho : atI xs i = some old) (h : fe δ1 = some (.ok (zI c) δ1)) (he : ∀ ys, δ1.set j (some (zL zI ys)) = E ys) (hr : ∀ ys, SimX rest (E ys) (k ys) K) : SimX (cSeq (cAugSI j gg fi fe) rest) δ ((setO xs i (gg old c)).bind k) K := sx_hoist fun ys hy b q => by
  unfold setO at hy
  unfold atI at ho
  cases hn : ixN xs.length i with
  | none => rw [hn] at hy; cases hy
  | some n =>
    rw [hn] at hy ho
    cases hy
    obtain ⟨fl, δ', e1, hk⟩ := hr _ b q
    refine ⟨fl, δ', r_seq (r_augSI h0 hi h1 (by rw [List.length_map]; exact hn) (by rw [List.getElem?_map, show xs[n]? = some old from ho]; rfl) h h1 rfl) ?_, hk⟩
    rw [← he] at e1
    unfold zL at e1
    rw [List.map_set] at e1
    exact e1
theorem eraseIdx_map' {e : σ → τ} : ∀ (xs : List σ) (n : Nat), (xs.map e).eraseIdx n = (xs.eraseIdx n).map e
  | [], _ => rfl
  | _ :: _, 0 => rfl
  | x :: r, n + 1 => by
    show e x :: (r.map e).eraseIdx n = e x :: (r.eraseIdx n).map e
    rw [eraseIdx_map' r n]
theorem ss_setK [DecidableEq σ] {j : Nat} {fe fi : EM D} {rest : EM Fl} {ek : σ → D} {ky : σ → Key} [Ky ek ky] {ev : τ → D} [Im ev] {kvs0 kvs : List (σ × τ)} {v : τ} {x : σ} {k : List (σ × τ) → Option β} {E : List (σ × τ) → DEnv} {K : β → Fl → DEnv → Prop} (h0 : δ[j]? = some (some (zK ek ev kvs0))) (h : fe δ = some (.ok (ev v) δ1)) (hi : fi δ1 = some (.ok (ek x) δ2)) (h1 : δ2[j]? = some (some (zK ek ev kvs))) (he : ∀ ys, δ2.set j (some (zK ek ev ys)) = E ys) (hr : ∀ ys, SimX rest (E ys) (k ys) K) : SimX (cSeq (cSetK j fe fi) rest) δ ((putO kvs x v).bind k) K := sx_hoist fun ys hy b q => by
  unfold putO at hy
  split at hy
  · rename_i hl
    cases hy
    obtain ⟨fl, δ', e1, hk⟩ := hr _ b q
    refine ⟨fl, δ', r_seq ?_ e1, hk⟩
    rw [← he]
    unfold cSetK
    rw [show dictAt δ j = some (kvs0.map fun p => (ek p.1, ev p.2)) by unfold dictAt; rw [h0]; rfl]
    refine r_bind h (r_bind hi ?_)
    rw [show dictAt δ2 j = some (kvs.map fun p => (ek p.1, ev p.2)) by unfold dictAt; rw [h1]; rfl, Ky.key (e := ek) x]
    dsimp only
    rw [if_pos ⟨Im.im v, plain_e kvs, by rw [List.length_map]; exact hl⟩, putD_e]; rfl
  · cases hy
/-- a list's item that is changed in its place: the rest of the block changes it -/
theorem ss_alias {c j : Nat} {fi : EM D} {body : EM Fl} {e : σ → D} {xs0 xs : List σ} {i : Int} {tb : σ → Option γ} {X : γ → σ} {kk : γ → List σ → β} {K : β → Fl → DEnv → Prop} (E : γ → (Nat → Option D) → DEnv) (E0 : σ → DEnv) (E2 : γ → (Nat → Option D) → List σ → DEnv) (JJ : γ → Fl → DEnv → Prop) (hJ : ∀ g fl δ', JJ g fl δ' → fl = .nx ∧ ∃ s, δ' = E g s)
    (h0 : δ[j]? = some (some (zL e xs0))) (hi : fi δ = some (.ok (zI i) δ1)) (h1 : δ1[j]? = some (some (zL e xs))) (hc : Nat.blt c δ1.length = true) (he : ∀ x, (δ1.set j none).set c (some (e x)) = E0 x)
    (hb : ∀ x, SimX body (E0 x) (tb x) JJ) (hE : ∀ g s, ((E g s)[c]?).join = some (e (X g))) (hE2 : ∀ g s ys, ((E g s).set c none).set j (some (zL e ys)) = E2 g s ys) (hr : ∀ g s ys, K (kk g ys) .nx (E2 g s ys)) :
    SimX (cAlias c j fi body) δ ((atI xs i).bind fun x => (tb x).bind fun g => (setO xs i (X g)).bind fun ys => some (kk g ys)) K := sx_hoist fun x hx => sx_hoist fun g hg => sx_hoist fun ys hy b q => by
  cases q
  obtain ⟨fl, δ', e1, e2⟩ := hb x g hg
  obtain ⟨rfl, s, rfl⟩ := hJ _ _ _ e2
  unfold atI at hx
  unfold setO at hy
  cases hn : ixN xs.length i with
  | none => rw [hn] at hy; cases hy
  | some n =>
    rw [hn] at hy hx
    cases hy
    have hx : xs[n]? = some x := hx
    refine ⟨.nx, _, ?_, hr g s _⟩
    unfold cAlias
    rw [lstAt_of h0]
    refine r_bind hi ?_
    rw [lstAt_of h1]
    dsimp only [zI]
    rw [List.length_map, hn]
    dsimp only
    rw [List.getElem?_map, hx]
    dsimp only [Option.map]
    rw [if_pos (show c < δ1.length from Nat.le_of_ble_eq_true hc), he, e1]
    dsimp only
    rw [hE]
    dsimp only
    rw [← hE2, show (zL e (xs.set n (X g))) = .list ((xs.map e).set n (e (X g))) by unfold zL; rw [List.map_set]]
def popO (xs : List σ) (i : Int) : Option (σ × List σ) := (ixN xs.length i).bind fun n => if xs.length ≤ 1000000 then xs[n]?.map fun x => (x, xs.eraseIdx n) else none
theorem x_popAt {j : Nat} {f : EM D} {e : σ → D} [Im e] {xs0 xs : List σ} {i : Int} {r : σ × List σ} (h0 : δ[j]? = some (some (zL e xs0))) (h : f δ = some (.ok (zI i) δ1)) (h1 : δ1[j]? = some (some (zL e xs))) (hp : popO xs i = some r) : cPopAt j f δ = some (.ok (e r.1) (δ1.set j (some (zL e r.2)))) := by
  unfold popO at hp
  cases hn : ixN xs.length i with
  | none => rw [hn] at hp; cases hp
  | some n =>
    rw [hn] at hp
    have hp : (if xs.length ≤ 1000000 then xs[n]?.map fun x => (x, xs.eraseIdx n) else none) = some r := hp
    split at hp
    · rename_i hl
      cases hx : xs[n]? with
      | none => rw [hx] at hp; cases hp
      | some x =>
        rw [hx] at hp
        cases hp
        rw [r_popAt h0 h h1 (k := n) (y := e x) (by rw [List.length_map]; exact hn) (by rw [List.getElem?_map, hx]; rfl) (Im.im x) (by rw [List.length_map]; exact hl)]
        unfold zL
        rw [eraseIdx_map']
    · cases hp
theorem ss_ret {f : EM D} {rest : EM Fl} {b : β} {d : D} {K : β → Fl → DEnv → Prop} (h : f δ = some (.ok d δ1)) (k : K b (.rt d) δ1) : SimX (cSeq (cRet f) rest) δ (some b) K := sx_done (r_seqR (r_ret h)) k
theorem ss_retN {rest : EM Fl} {b : β} {K : β → Fl → DEnv → Prop} (k : K b (.rt .none) δ) : SimX (cSeq cRetN rest) δ (some b) K := sx_done (r_seqR r_retN) k
theorem ss_nx {b : β} {K : β → Fl → DEnv → Prop} (k : K b .nx δ) : SimX cNx δ (some b) K := sx_done rfl k
theorem ss_bk {rest : EM Fl} {b : β} {K : β → Fl → DEnv → Prop} (k : K b .bk δ) : SimX (cSeq cBk rest) δ (some b) K := sx_done rfl k
theorem ss_ct {rest : EM Fl} {b : β} {K : β → Fl → DEnv → Prop} (k : K b .ct δ) : SimX (cSeq cCt rest) δ (some b) K := sx_done rfl k
theorem ss_pass {rest : EM Fl} {K : β → Fl → DEnv → Prop} (h : SimX rest δ t K) : SimX (cSeq cNx rest) δ t K := h
theorem cSeq_assoc (f g h : EM Fl) : cSeq (cSeq f g) h = cSeq f (cSeq g h) := by
  funext δ
  unfold cSeq
  cases f δ with
  | none => rfl
  | some o =>
    cases o with
    | ex x => rfl
    | ok fl δ1 => cases fl <;> rfl
theorem ss_assoc {f g rest : EM Fl} {K : β → Fl → DEnv → Prop} (h : SimX (cSeq f (cSeq g rest)) δ t K) : SimX (cSeq (cSeq f g) rest) δ t K := by rw [cSeq_assoc]; exact h
/-- both ways go on to the end by themselves -/
theorem ss_if {T : EM Bool} {f g rest : EM Fl} {c : Bool} {t1 t2 : Option β} {K : β → Fl → DEnv → Prop} (h : T δ = some (.ok c δ1)) (h1 : c = true → SimX (cSeq f rest) δ1 t1 K) (h2 : c = false → SimX (cSeq g rest) δ1 t2 K) : SimX (cSeq (cIfS T f g) rest) δ (if c = true then t1 else t2) K := by
  have key : ∀ (c0 : Bool) (u : EM Fl), c = c0 → (if c0 = true then f else g) = u → ∀ δ' r, cSeq u rest δ1 = some (.ok r δ') → cSeq (cIfS T f g) rest δ = some (.ok r δ') := fun c0 u e eu δ' r q => by
    have e1 : cIfS T f g δ = u δ1 := by
      have h : T δ = some (.ok c0 δ1) := e ▸ h
      refine (r_if h rfl).trans ?_
      subst eu
      cases c0 <;> rfl
    unfold cSeq at q ⊢
    rw [e1]; exact q
  cases hc : c
  · intro b e
    obtain ⟨a, δ', e1, k⟩ := h2 hc b e
    exact ⟨a, δ', key false g hc rfl δ' a e1, k⟩
  · intro b e
    obtain ⟨a, δ', e1, k⟩ := h1 hc b e
    exact ⟨a, δ', key true f hc rfl δ' a e1, k⟩
/-- the slots that nobody looks at any more -/
def scr (δ : DEnv) : Nat → Option D := fun i => (δ[i]?).join
def JK (E : γ → (Nat → Option D) → DEnv) : γ → Fl → DEnv → Prop := fun c fl δ' => fl = .nx ∧ δ' = E c (scr δ')
/-- both ways meet again -/
theorem ss_join {T : EM Bool} {f g rest : EM Fl} {c : Bool} {t1 t2 : Option γ} {k : γ → Option β} {K : β → Fl → DEnv → Prop} (E : γ → (Nat → Option D) → DEnv) (h : T δ = some (.ok c δ1)) (h1 : c = true → SimX f δ1 t1 (JK E)) (h2 : c = false → SimX g δ1 t2 (JK E)) (hr : ∀ c s, SimX rest (E c s) (k c) K) : SimX (cSeq (cIfS T f g) rest) δ ((if c = true then t1 else t2).bind k) K := by
  have fin : ∀ (u : EM Fl) (t : Option γ), cIfS T f g δ = u δ1 → SimX u δ1 t (JK E) → SimX (cSeq (cIfS T f g) rest) δ (t.bind k) K := fun u t e1 hu => sx_hoist fun x hx b q => by
    obtain ⟨a, δ', e2, rfl, e3⟩ := hu x hx
    rw [e2] at e1
    rw [e3] at e1
    obtain ⟨fl, δ3, e4, hk⟩ := hr x (scr δ') b q
    exact ⟨fl, δ3, r_seq e1 e4, hk⟩
  cases hc : c
  · rw [if_neg Bool.false_ne_true]
    exact fin g t2 (r_if (hc ▸ h) rfl) (h2 hc)
  · rw [if_pos rfl]
    exact fin f t1 (r_if (hc ▸ h) rfl) (h1 hc)
/-! loops -/
inductive Lp (γ ρ : Type) where
  | nx (c : γ)
  | bk (c : γ)
  | rt (r : ρ)
def Lp.out (k : γ → Option β) (kr : ρ → Option β) : Lp γ ρ → Option β
  | .nx c => k c
  | .bk c => k c
  | .rt r => kr r
/-- a loop that may be left -/
def loopT (step : γ → α → Option (Lp γ ρ)) : List α → γ → Option (Lp γ ρ)
  | [], c => some (.nx c)
  | a :: r, c => (step c a).bind fun
    | .nx c' => loopT step r c'
    | .bk c' => some (.bk c')
    | .rt x => some (.rt x)
/-- a loop that goes to its end -/
def foldT (step : γ → α → Option γ) : List α → γ → Option γ
  | [], c => some c
  | a :: r, c => (step c a).bind fun c' => foldT step r c'
def FK (E : γ → (Nat → Option D) → DEnv) : γ → Fl → DEnv → Prop := fun c fl δ' => (fl = .nx ∨ fl = .ct) ∧ δ' = E c (scr δ')
def LK (E : γ → (Nat → Option D) → DEnv) (K : β → Fl → DEnv → Prop) : Lp γ β → Fl → DEnv → Prop
  | .nx c, fl, δ' => (fl = .nx ∨ fl = .ct) ∧ δ' = E c (scr δ')
  | .bk c, fl, δ' => fl = .bk ∧ δ' = E c (scr δ')
  | .rt b, fl, δ' => (∃ d, fl = .rt d) ∧ K b fl δ'
theorem ss_fold {tg : Tg} {fi : EM (List D)} {body rest : EM Fl} {xs : List α} {e : α → D} {step : γ → α → Option γ} {c0 : γ} {s0 : Nat → Option D} {k : γ → Option β} {K : β → Fl → DEnv → Prop} (E : γ → (Nat → Option D) → DEnv) (E1 : γ → (Nat → Option D) → α → DEnv) (h : fi δ = some (.ok (xs.map e) δ1)) (h0 : δ1 = E c0 (scr δ1))
    (hb : ∀ c s x, bindT tg (e x) (E c s) = some (E1 c s x)) (hs : ∀ c s x, SimX body (E1 c s x) (step c x) (FK E)) (hr : ∀ c s, SimX rest (E c s) (k c) K) : SimX (cSeq (cFor fi tg body) rest) δ ((foldT step xs c0).bind k) K := sx_hoist fun cz hz b q => by
  have key : ∀ (xs : List α) (c : γ) (s : Nat → Option D), foldT step xs c = some cz → ∃ s', cLoop tg body (xs.map e) (E c s) = some (.ok .nx (E cz s')) := fun xs => by
    induction xs with
    | nil => intro c s q; cases q; exact ⟨s, rfl⟩
    | cons x r ih =>
      intro c s q
      rw [foldT] at q
      cases hc : step c x with
      | none => rw [hc] at q; cases q
      | some c1 =>
        rw [hc] at q
        obtain ⟨fl, δ', e2, e3, e4⟩ := hs c s x c1 hc
        obtain ⟨s', e5⟩ := ih c1 (scr δ') q
        rw [e4] at e2
        refine ⟨s', ?_⟩
        rw [List.map_cons, cLoop]
        dsimp only
        rw [hb]
        dsimp only
        rcases e3 with rfl | rfl
        · rw [e2]; exact e5
        · rw [e2]; exact e5
  obtain ⟨s', e1⟩ := key xs c0 (scr δ1) hz
  rw [← h0] at e1
  obtain ⟨fl, δ', e2, hk⟩ := hr cz s' b q
  exact ⟨fl, δ', r_seq (r_for h e1) e2, hk⟩
theorem ss_loop {tg : Tg} {fi : EM (List D)} {body rest : EM Fl} {xs : List α} {e : α → D} {step : γ → α → Option (Lp γ β)} {c0 : γ} {k : γ → Option β} {K : β → Fl → DEnv → Prop} (E : γ → (Nat → Option D) → DEnv) (E1 : γ → (Nat → Option D) → α → DEnv) (h : fi δ = some (.ok (xs.map e) δ1)) (h0 : δ1 = E c0 (scr δ1))
    (hb : ∀ c s x, bindT tg (e x) (E c s) = some (E1 c s x)) (hs : ∀ c s x, SimX body (E1 c s x) (step c x) (LK E K)) (hr : ∀ c s, SimX rest (E c s) (k c) K) : SimX (cSeq (cFor fi tg body) rest) δ ((loopT step xs c0).bind (Lp.out k some)) K := sx_hoist fun cz hz b q => by
  have key : ∀ (xs : List α) (c : γ) (s : Nat → Option D), loopT step xs c = some cz → (∃ cc s', (cz = .nx cc ∨ cz = .bk cc) ∧ cLoop tg body (xs.map e) (E c s) = some (.ok .nx (E cc s'))) ∨ ∃ r d δ', cz = .rt r ∧ cLoop tg body (xs.map e) (E c s) = some (.ok (.rt d) δ') ∧ K r (.rt d) δ' := fun xs => by
    induction xs with
    | nil => intro c s q; cases q; exact .inl ⟨c, s, .inl rfl, rfl⟩
    | cons x r ih =>
      intro c s q
      rw [loopT] at q
      cases hc : step c x with
      | none => rw [hc] at q; cases q
      | some c1 =>
        rw [hc] at q
        obtain ⟨fl, δ', e2, e3⟩ := hs c s x c1 hc
        rw [List.map_cons, cLoop]
        dsimp only
        rw [hb]
        dsimp only
        cases c1 with
        | nx c1 =>
          obtain ⟨e3, e4⟩ := e3
          rw [e4] at e2
          rcases e3 with rfl | rfl
          · rw [e2]; exact ih c1 _ q
          · rw [e2]; exact ih c1 _ q
        | bk c1 =>
          obtain ⟨rfl, e4⟩ := e3
          rw [e4] at e2
          cases q
          rw [e2]; exact .inl ⟨c1, _, .inr rfl, rfl⟩
        | rt b =>
          obtain ⟨⟨d, rfl⟩, e4⟩ := e3
          cases q
          rw [e2]; exact .inr ⟨b, d, δ', rfl, rfl, e4⟩
  rcases key xs c0 (scr δ1) hz with ⟨cc, s', ez, e1⟩ | ⟨r, d, δ', rfl, e1, hk⟩
  · rw [← h0] at e1
    have q : k cc = some b := by rcases ez with rfl | rfl <;> exact q
    obtain ⟨fl, δ', e2, hk⟩ := hr cc s' b q
    exact ⟨fl, δ', r_seq (r_for h e1) e2, hk⟩
  · rw [← h0] at e1
    have q : some r = some b := q
    cases q
    exact ⟨.rt d, δ', r_seqR (r_for h e1), hk⟩
/-! comprehensions -/
def mapO (c : α → Bool) (f : α → τ) (xs : List α) : Option (List τ) := if xs.length ≤ 1000000 then some ((xs.filter c).map f) else none
theorem x_comp {vs : List Nat} {tg : Tg} {fi : EM (List D)} {cond : EM Bool} {elt : EM D} {xs : List α} {e : α → D} {c : α → Bool} {g : α → τ} {e' : τ → D} {ys : List τ} (E1 : α → DEnv) (hy : mapO c g xs = some ys) (h : fi δ = some (.ok (xs.map e) δ1)) (hv : vs.all (immAt δ1) = true) (h0 : backV δ1 vs δ1 = δ1)
    (hb : ∀ x, bindT tg (e x) (wipeD vs δ1) = some (E1 x)) (hw : ∀ x, wipeD vs (E1 x) = wipeD vs δ1) (hk : ∀ x, backV δ1 vs (E1 x) = δ1) (hc : ∀ x, cond (E1 x) = some (.ok (c x) (E1 x))) (hf : ∀ x, elt (E1 x) = some (.ok (e' (g x)) (E1 x))) : cComp vs tg fi cond elt δ = some (.ok (zL e' ys) δ1) := by
  unfold mapO at hy
  split at hy
  · rename_i hl
    cases hy
    have key : ∀ (xs : List α) (δ2 : DEnv), wipeD vs δ2 = wipeD vs δ1 → backV δ1 vs δ2 = δ1 → ∃ δ3, compL vs tg cond elt (xs.map e) δ2 = some (.ok (((xs.filter c).map g).map e') δ3) ∧ backV δ1 vs δ3 = δ1 := fun xs => by
      induction xs with
      | nil => intro δ2 _ k; exact ⟨δ2, rfl, k⟩
      | cons x r ih =>
        intro δ2 w k
        obtain ⟨δ3, e1, e2⟩ := ih (E1 x) (hw x) (hk x)
        refine ⟨δ3, ?_, e2⟩
        rw [List.map_cons, compL]
        dsimp only
        rw [w, hb]
        dsimp only
        refine r_bind (hc x) ?_
        cases hcx : c x with
        | true =>
          rw [if_pos rfl, List.filter_cons_of_pos hcx]
          exact r_bind (hf x) (r_bind e1 rfl)
        | false =>
          rw [if_neg Bool.false_ne_true, List.filter_cons_of_neg (by rw [hcx]; exact Bool.false_ne_true)]
          exact e1
    obtain ⟨δ3, e1, e2⟩ := key xs δ1 rfl h0
    have := r_comp (vs := vs) (t := tg) h hv (by rw [List.length_map]; exact hl) e1
    rw [e2] at this
    exact this
  · cases hy
def mapU (f : α → τ) (xs : List α) : Option (List τ) := if xs.length ≤ 1000000 then some (xs.map f) else none
theorem mapU_O (f : α → τ) (xs : List α) : mapU f xs = mapO (fun _ => true) f xs := by
  unfold mapU mapO
  rw [List.filter_eq_self.mpr fun _ _ => rfl]
theorem x_compU {vs : List Nat} {tg : Tg} {fi : EM (List D)} {elt : EM D} {xs : List α} {e : α → D} {g : α → τ} {e' : τ → D} {ys : List τ} (E1 : α → DEnv) (hy : mapU g xs = some ys) (h : fi δ = some (.ok (xs.map e) δ1)) (hv : vs.all (immAt δ1) = true) (h0 : backV δ1 vs δ1 = δ1)
    (hb : ∀ x, bindT tg (e x) (wipeD vs δ1) = some (E1 x)) (hw : ∀ x, wipeD vs (E1 x) = wipeD vs δ1) (hk : ∀ x, backV δ1 vs (E1 x) = δ1) (hf : ∀ x, elt (E1 x) = some (.ok (e' (g x)) (E1 x))) : cComp vs tg fi cYes elt δ = some (.ok (zL e' ys) δ1) :=
  x_comp E1 (by rw [← mapU_O]; exact hy) h hv h0 hb hw hk (fun _ => rfl) hf
/-- a comprehension whose parts may fail or draw -/
def compT (step : γ → α → Option (γ × Option τ)) : List α → γ → Option (γ × List τ)
  | [], c => some (c, [])
  | a :: r, c => (step c a).bind fun p => (compT step r p.1).bind fun q => some (q.1, match p.2 with
    | some y => y :: q.2
    | none => q.2)
def compO (step : γ → α → Option (γ × Option τ)) (xs : List α) (c : γ) : Option (γ × List τ) := if xs.length ≤ 1000000 then compT step xs c else none
/-- the test and the item together -/
def cEl (cond : EM Bool) (elt : EM D) : EM (Option D) := EM.bind cond fun b => if b = true then EM.bind elt fun y δ => some (.ok (some y) δ) else fun δ => some (.ok none δ)
theorem sx_el {cond : EM Bool} {elt : EM D} {c : Bool} {t : Option β} {b0 : β} {K : β → Option D → DEnv → Prop} (h : cond δ = some (.ok c δ1)) (h1 : c = true → SimX elt δ1 t fun b a δ' => K b (some a) δ') (h2 : K b0 none δ1) : SimX (cEl cond elt) δ (if c = true then t else some b0) K := by
  cases hc : c
  · intro b e
    cases e
    exact ⟨none, δ1, r_bind (hc ▸ h) rfl, h2⟩
  · intro b e
    obtain ⟨a, δ', e1, k⟩ := h1 hc b e
    exact ⟨some a, δ', r_bind (hc ▸ h) (by rw [if_pos rfl]; exact r_bind (f := elt) e1 rfl), k⟩
theorem sx_el0 {elt : EM D} {K : β → Option D → DEnv → Prop} (h1 : SimX elt δ t fun b a δ' => K b (some a) δ') : SimX (cEl cYes elt) δ t K := fun b e => by
  obtain ⟨a, δ', e1, k⟩ := h1 b e
  exact ⟨some a, δ', r_bind (f := cYes) rfl (r_bind (f := elt) e1 rfl), k⟩
def CK (vs : List Nat) (E : γ → DEnv) (δ1 : DEnv) (e' : τ → D) : γ × Option τ → Option D → DEnv → Prop := fun p o δ' => o = p.2.map e' ∧ wipeD vs δ' = wipeD vs (E p.1) ∧ backV δ1 vs δ' = E p.1
theorem x_compO {vs : List Nat} {tg : Tg} {fi : EM (List D)} {cond : EM Bool} {elt : EM D} {xs : List α} {e : α → D} {step : γ → α → Option (γ × Option τ)} {e' : τ → D} {c0 : γ} {r : γ × List τ} (E : γ → DEnv) (E1 : γ → α → DEnv) (hr : compO step xs c0 = some r) (h : fi δ = some (.ok (xs.map e) δ1)) (hE : δ1 = E c0) (hv : vs.all (immAt δ1) = true) (h0 : backV δ1 vs δ1 = δ1)
    (hb : ∀ c x, bindT tg (e x) (wipeD vs (E c)) = some (E1 c x)) (hs : ∀ c x, SimX (cEl cond elt) (E1 c x) (step c x) (CK vs E δ1 e')) : cComp vs tg fi cond elt δ = some (.ok (zL e' r.2) (E r.1)) := by
  unfold compO at hr
  split at hr
  · rename_i hl
    have key : ∀ (xs : List α) (c : γ) (δ2 : DEnv) (r : γ × List τ), compT step xs c = some r → wipeD vs δ2 = wipeD vs (E c) → backV δ1 vs δ2 = E c → ∃ δ3, compL vs tg cond elt (xs.map e) δ2 = some (.ok (r.2.map e') δ3) ∧ backV δ1 vs δ3 = E r.1 := fun xs => by
      induction xs with
      | nil => intro c δ2 r q _ k; cases q; exact ⟨δ2, rfl, k⟩
      | cons x t ih =>
        intro c δ2 r q w k
        rw [compT] at q
        cases hp : step c x with
        | none => rw [hp] at q; cases q
        | some p =>
          rw [hp] at q
          have q : (compT step t p.1).bind (fun q => some (q.1, match p.2 with | some y => y :: q.2 | none => q.2)) = some r := q
          cases hq : compT step t p.1 with
          | none => rw [hq] at q; cases q
          | some q1 =>
            rw [hq] at q
            have q : some (q1.1, match p.2 with | some y => y :: q1.2 | none => q1.2) = some r := q
            cases q
            obtain ⟨o, δ', e1, e2, e3, e4⟩ := hs c x p hp
            obtain ⟨δ3, e5, e6⟩ := ih p.1 δ' q1 hq e3 e4
            refine ⟨δ3, ?_, e6⟩
            rw [List.map_cons, compL]
            dsimp only
            rw [w, hb]
            dsimp only
            unfold cEl at e1
            unfold EM.bind at e1 ⊢
            cases hcd : cond (E1 c x) with
            | none => rw [hcd] at e1; cases e1
            | some oc =>
              rw [hcd] at e1
              cases oc with
              | ex y => cases e1
              | ok bb δc =>
                dsimp only at e1 ⊢
                cases bb with
                | false =>
                  rw [if_neg Bool.false_ne_true] at e1 ⊢
                  cases e1
                  rw [e5]
                  cases hp2 : p.2 with
                  | none => rfl
                  | some y => rw [hp2] at e2; cases e2
                | true =>
                  rw [if_pos rfl] at e1 ⊢
                  cases hel : elt δc with
                  | none => rw [hel] at e1; cases e1
                  | some oe =>
                    rw [hel] at e1
                    cases oe with
                    | ex y => cases e1
                    | ok y δe =>
                      dsimp only at e1 ⊢
                      cases e1
                      rw [e5]
                      cases hp2 : p.2 with
                      | none => rw [hp2] at e2; cases e2
                      | some z => rw [hp2] at e2; cases e2; rfl
    obtain ⟨δ3, e1, e2⟩ := key xs c0 δ1 r hr (by rw [← hE]) (by rw [h0]; exact hE)
    have := r_comp (vs := vs) (t := tg) h hv (by rw [List.length_map]; exact hl) e1
    rw [e2] at this
    exact this
  · cases hr
def keepO (xs : List σ) : Option (List σ) := if xs.length ≤ 1000000 then some xs else none
theorem tupsD_map {e : σ → D} [Im e] : ∀ xs : List (List σ), tupsD (xs.map (zL e)) = some (xs.map (zT e))
  | [] => rfl
  | x :: r => by
    rw [List.map_cons, tupsD, tupsD_map r, p_tuple (E := zL e) (e := e)]; rfl
theorem x_compTup {v j : Nat} {e : σ → D} [Im e] {xs ys : List (List σ)} (hy : keepO xs = some ys) (h0 : δ[j]? = some (some (zL (zL e) xs))) (hv : Nat.blt v δ.length = true) : cCompTup v j δ = some (.ok (zL (zT e) ys) δ) := by
  unfold keepO at hy
  split at hy
  · rename_i hl
    cases hy
    unfold cCompTup
    rw [lstAt_of h0]
    dsimp only
    rw [if_pos ⟨show v < δ.length from Nat.le_of_ble_eq_true hv, by rw [List.length_map]; exact hl⟩, tupsD_map]
    rfl
  · cases hy
/-! a def -/
def FnK (A : List Nat) (δ0 : DEnv) (V : β → D) (R : β → DEnv) : β → Fl → DEnv → Prop := fun b fl δ' => (match fl with | .rt d => d = V b | .nx => V b = PyData.none | _ => False) ∧ finArgs A 0 δ0 δ' = R b
theorem fn_sim {n : Nat} {A : List Nat} {g : EM Fl} {V : β → D} {R : β → DEnv} {b : β} (hA : immA A δ = true) (hs : SimX g (δ ++ List.replicate (n - δ.length) none) t (FnK A δ V R)) (h : t = some b) : fnD n A g δ = some (.ok (V b) (R b)) := by
  obtain ⟨fl, δ', e1, e2, e3⟩ := hs b h
  cases fl with
  | nx =>
    have e2 : V b = PyData.none := e2
    rw [e2]
    exact r_fnN hA e1 e3
  | rt d =>
    have e2 : d = V b := e2
    subst e2
    exact r_fn hA e1 e3
  | bk => exact e2.elim
  | ct => exact e2.elim
theorem r_enum {f : EM D} {d : D} {ds : List D} (h : f δ = some (.ok d δ1)) (e : enumO d = some ds) : cEnum f δ = some (.ok ds δ1) := r_bind h (by rw [e])
theorem r_yes : cYes δ = some (.ok true δ) := rfl
end
end DL
set_option maxHeartbeats 1000000
/-! C5: the typed draw. -/
namespace DL
open PySem PySem.Spec PyProof.Rows L2
def t__law_draw (d : DSt) (n : Int) : Option (Int × DSt) := if 0 < n ∧ n < 1073741824 then some (drawV d n) else none
theorem s__law_draw {d : DSt} {n : Int} {r : Int × DSt} (h : t__law_draw d n = some r) : F__law_draw [some (dst d), some (zI n)] = some (.ok (zI r.1) [some (dst r.2), some (zI n)]) := by
  unfold t__law_draw at h
  split at h
  · rename_i hn
    cases h
    exact draw_eq d n hn.1 hn.2
  · cases h
def mkID {α : Type} (e : α → D) [Im e] (x : α) : ID := ⟨e x, Im.im x⟩
def ixTail {α : Type} (k : Nat) (xs : List α) (i : Int) : Option α := if (k : Int) ≤ i then xs[(i - k).toNat]? else none
theorem p_ixTail {α : Type} {e : α → D} [Im e] {pre : List D} {xs : List α} {i : Int} {x : α} (h : ixTail pre.length xs i = some x) : gIx [.tuple (pre ++ xs.map e), zI i] = some (e x) := by
  unfold ixTail at h
  split at h
  · rename_i hi
    have hl := (List.getElem?_eq_some_iff.mp h).1
    unfold gIx
    dsimp only [zI]
    have e1 : ixD (.tuple (pre ++ xs.map e)) (.int i) = some (e x) := by
      show atI _ i = _
      obtain ⟨n, rfl⟩ : ∃ n : Nat, i = (n : Int) := ⟨i.toNat, by omega⟩
      refine atI_nat ?_
      rw [List.getElem?_append_right (by omega), List.getElem?_map]
      have : ((n : Int) - (pre.length : Int)).toNat = n - pre.length := by omega
      rw [this] at h
      rw [h]; rfl
    rw [e1]
    exact if_pos (Im.im x)
  · cases h
theorem altD_map {α β : Type} {ek : α → D} {ky : α → Key} [Ky ek ky] {ev : β → D} [Im ev] : ∀ kvs : List (α × β), altD (kvs.flatMap fun p => [ek p.1, ev p.2]) = some (kvs.map fun p => (ek p.1, ev p.2))
  | [] => rfl
  | p :: r => by
    show altD (ek p.1 :: ev p.2 :: r.flatMap fun p => [ek p.1, ev p.2]) = _
    rw [altD, if_pos ⟨by rw [Ky.key (e := ek) p.1]; rfl, Im.im p.2⟩, altD_map r]; rfl
theorem p_disp {α β : Type} {ek : α → D} {ky : α → Key} [Ky ek ky] {ev : β → D} [Im ev] {kvs : List (α × β)} (ks : List α) (h : kvs.map (·.1) = ks) (hn : ks.Nodup) (hl : Nat.ble kvs.length 15 = true) : gDisp (kvs.flatMap fun p => [ek p.1, ev p.2]) = some (zK ek ev kvs) := by
  have hk : ((kvs.map fun p => (ek p.1, ev p.2)).map fun kv : D × D => keyOf kv.1).Nodup := by
    rw [List.map_map]
    have : ((fun kv : D × D => keyOf kv.1) ∘ fun p : α × β => (ek p.1, ev p.2)) = (fun k => some (ky k)) ∘ Prod.fst := by
      funext p
      exact Ky.key (e := ek) p.1
    rw [this, ← List.map_map, h]
    exact List.pairwise_map.mpr (hn.imp fun hne e => hne (Ky.inj ek _ _ (Option.some.inj e)))
  have hl2 : (kvs.map fun p => (ek p.1, ev p.2)).length ≤ 15 := by rw [List.length_map]; exact Nat.le_of_ble_eq_true hl
  unfold gDisp
  rw [altD_map (ek := ek) (ev := ev)]
  exact if_pos ⟨hk, hl2⟩
theorem isT_e {α β : Type} {ek : α → D} {ky : α → Key} [Ky ek ky] {ev : β → D} (kvs : List (α × β)) : isT (kvs.map fun p => (ek p.1, ev p.2)) = false := by
  cases kvs with
  | nil => rfl
  | cons p r =>
    have h := Ky.key (e := ek) p.1
    show isT ((ek p.1, ev p.2) :: _) = false
    unfold isT
    split
    · rename_i e
      have e := congrArg Prod.fst (List.cons.inj e).1
      have e : ek p.1 = .none := e
      rw [e] at h; cases h
    · rfl
theorem p_inK0 {α β : Type} [DecidableEq α] {ek : α → D} {ky : α → Key} [Ky ek ky] {ev : β → D} {kvs : List (α × β)} {k : α} : inK [ek k, zK ek ev kvs] = some (getT kvs k).isSome := by
  unfold inK zK
  dsimp only
  rw [Ky.key (e := ek) k]
  dsimp only
  rw [if_pos (isT_e (ek := ek) kvs), findD_e]
  cases getT kvs k <;> rfl
theorem p_inK {α β : Type} [DecidableEq α] {ek : α → D} {ky : α → Key} [Ky ek ky] {ev : β → D} {kvs : List (α × β)} {k : α} : gInK [ek k, zK ek ev kvs] = some (zB (getT kvs k).isSome) := by
  unfold gInK
  rw [p_inK0]; rfl
theorem p_ninK {α β : Type} [DecidableEq α] {ek : α → D} {ky : α → Key} [Ky ek ky] {ev : β → D} {kvs : List (α × β)} {k : α} : gNinK [ek k, zK ek ev kvs] = some (zB (!(getT kvs k).isSome)) := by
  unfold gNinK
  rw [p_inK0]; rfl
theorem p_isN {α : Type} {e : α → D} {o : Option α} (h : ∀ a, isN (e a) = false := by intro; rfl) : (fun ds : List D => match ds with | [d] => some (PyData.bool (isN d)) | _ => none) [zO e o] = some (zB o.isNone) := by
  cases o with
  | none => rfl
  | some a => show some (PyData.bool (isN (e a))) = _; rw [h]; rfl
theorem p_notN {α : Type} {e : α → D} {o : Option α} (h : ∀ a, isN (e a) = false := by intro; rfl) : (fun ds : List D => match ds with | [d] => some (PyData.bool (!isN d)) | _ => none) [zO e o] = some (zB o.isSome) := by
  cases o with
  | none => rfl
  | some a => show some (PyData.bool (!isN (e a))) = _; rw [h]; rfl
theorem x_isN {α : Type} {δ δ1 : DEnv} {f : EM D} {e : α → D} {o : Option α} (p : f δ = some (.ok (zO e o) δ1)) (h : ∀ a, isN (e a) = false := by intro; rfl) : EM.bind f (fun d δ => some (.ok (isN d) δ)) δ = some (.ok o.isNone δ1) := r_bind p (by
  cases o with
  | none => rfl
  | some a => show some (Out.ok (isN (e a)) δ1) = _; rw [h]; rfl)
theorem x_notN {α : Type} {δ δ1 : DEnv} {f : EM D} {e : α → D} {o : Option α} (p : f δ = some (.ok (zO e o) δ1)) (h : ∀ a, isN (e a) = false := by intro; rfl) : EM.bind f (fun d δ => some (.ok (!isN d) δ)) δ = some (.ok o.isSome δ1) := r_bind p (by
  cases o with
  | none => rfl
  | some a => show some (Out.ok (!isN (e a)) δ1) = _; rw [h]; rfl)
end DL
set_option maxHeartbeats 1000000
/-! C6: pick, pop, shuffled, typed (printed by gen2.py). -/
namespace DL
open PySem PySem.Spec PyProof.Rows L2
def t__law_pick {A : Type} (d0 : DSt) (row0 : (List A)) : Option (A × DSt) :=
  (t__law_draw d0 ((row0).length : Int)).bind fun r1 => (atI row0 r1.1).bind fun r2 => some (r2, r1.2)
theorem m__law_pick {A : Type} {eA : A → D} [Im eA] {E : List A → D} [Sq E eA] (d0 : DSt) (row0 : (List A)) : SimX g__law_pick ([some (dst d0), some (E row0)] : DEnv) (t__law_pick d0 row0) (FnK [] [some (dst d0), some (E row0)] (fun (b : A × DSt) => eA (b.1)) (fun (b : A × DSt) => [some (dst (b.2)), some (E row0)])) := by
  unfold g__law_pick t__law_pick
  exact sx_hoist fun r1 h_r1 => sx_hoist fun r2 h_r2 => ss_ret (r_V (r_args (r_sl rfl) (r_args (r_call (r_args (r_sl rfl) (r_args (r_V (r_args (r_sl rfl) (r_args_nil) rfl) (p_len (E := E) (xs := row0))) (r_args_nil) rfl) rfl) (s__law_draw  h_r1)) (r_args_nil) rfl) rfl) (p_ix (E := E) (e := eA) h_r2)) (⟨rfl, rfl⟩)
theorem s__law_pick {A : Type} {eA : A → D} [Im eA] {E : List A → D} [Sq E eA] {d0 : DSt} {row0 : (List A)} {r : A × DSt} (h : t__law_pick d0 row0 = some r) : F__law_pick [some (dst d0), some (E row0)] = some (.ok ((fun (b : A × DSt) => eA (b.1)) r) ((fun (b : A × DSt) => [some (dst (b.2)), some (E row0)]) r)) := by
  unfold F__law_pick
  exact fn_sim (V := fun (b : A × DSt) => eA (b.1)) (R := fun (b : A × DSt) => [some (dst (b.2)), some (E row0)]) (by first | rfl | simp [immA, immAt, Im.im]) (m__law_pick d0 row0) h
def t__law_pop {A : Type} (d0 : DSt) (row0 : (List A)) : Option (A × DSt × (List A)) :=
  (t__law_draw d0 ((row0).length : Int)).bind fun r1 => (popO row0 r1.1).bind fun q2 => some (q2.1, r1.2, q2.2)
theorem m__law_pop {A : Type} {eA : A → D} [Im eA] (d0 : DSt) (row0 : (List A)) : SimX g__law_pop ([some (dst d0), some ((zL eA) row0)] : DEnv) (t__law_pop d0 row0) (FnK [] [some (dst d0), some ((zL eA) row0)] (fun (b : A × DSt × (List A)) => eA (b.1)) (fun (b : A × DSt × (List A)) => [some (dst (b.2.1)), some ((zL eA) (b.2.2))])) := by
  unfold g__law_pop t__law_pop
  exact sx_hoist fun r1 h_r1 => sx_hoist fun q2 h_q2 => ss_ret (x_popAt (e := eA) rfl (r_call (r_args (r_sl rfl) (r_args (r_V (r_args (r_sl rfl) (r_args_nil) rfl) (p_len (E := (zL eA)) (xs := row0))) (r_args_nil) rfl) rfl) (s__law_draw  h_r1)) rfl h_q2) (⟨rfl, rfl⟩)
theorem s__law_pop {A : Type} {eA : A → D} [Im eA] {d0 : DSt} {row0 : (List A)} {r : A × DSt × (List A)} (h : t__law_pop d0 row0 = some r) : F__law_pop [some (dst d0), some ((zL eA) row0)] = some (.ok ((fun (b : A × DSt × (List A)) => eA (b.1)) r) ((fun (b : A × DSt × (List A)) => [some (dst (b.2.1)), some ((zL eA) (b.2.2))]) r)) := by
  unfold F__law_pop
  exact fn_sim (V := fun (b : A × DSt × (List A)) => eA (b.1)) (R := fun (b : A × DSt × (List A)) => [some (dst (b.2.1)), some ((zL eA) (b.2.2))]) (by first | rfl | simp [immA, immAt, Im.im]) (m__law_pop d0 row0) h
def t__law_shuffled {A : Type} (d0 : DSt) (row0 : (List A)) : Option ((List A) × DSt) :=
  bnd row0 fun left1 =>
  bnd ([] : List A) fun found2 =>
  (rng1 ((left1).length : Int)).bind fun ks3 => (foldT (fun (c4 : DSt × (List A) × (List A)) k6 =>
  (t__law_draw c4.1 ((c4.2.1).length : Int)).bind fun r7 => (popO c4.2.1 r7.1).bind fun q8 => (appO c4.2.2 q8.1).bind fun found9 =>
  some (r7.2, q8.2, found9)) ks3 (d0, left1, found2)).bind fun c4 =>
  some (c4.2.2, c4.1)
theorem m__law_shuffled {A : Type} {eA : A → D} [Im eA] {E : List A → D} [Sq E eA] (d0 : DSt) (row0 : (List A)) : SimX g__law_shuffled ([some (dst d0), some (E row0), none, none, none] : DEnv) (t__law_shuffled d0 row0) (FnK [2, 3, 4] [some (dst d0), some (E row0)] (fun (b : (List A) × DSt) => (zL eA) (b.1)) (fun (b : (List A) × DSt) => [some (dst (b.2)), some (E row0)])) := by
  unfold g__law_shuffled t__law_shuffled
  exact ss_asg (e := (zL eA)) (E := fun left1 => [some (dst d0), some (E row0), some ((zL eA) left1), none, none]) (r_V (r_args (r_sl rfl) (r_args_nil) rfl) (p_list (E := E) (xs := row0))) rfl (fun _ => rfl) fun left1 =>
  ss_asg (e := (zL eA)) (E := fun found2 => [some (dst d0), some (E row0), some ((zL eA) left1), some ((zL eA) found2), none]) (r_V (r_args_nil) (v_lst (Nat.le_of_ble_eq_true rfl))) rfl (fun _ => rfl) fun found2 =>
  sx_hoist fun ks3 h_ks3 => ss_fold (s0 := fun _ => none) (e := zI) (fun (c4 : DSt × (List A) × (List A)) (s5 : Nat → Option D) => [some (dst c4.1), some (E row0), some ((zL eA) c4.2.1), some ((zL eA) c4.2.2), s5 4]) (fun (c4 : DSt × (List A) × (List A)) (s5 : Nat → Option D) k6 => [some (dst c4.1), some (E row0), some ((zL eA) c4.2.1), some ((zL eA) c4.2.2), some (zI k6)]) (r_rng (r_args (r_V (r_args (r_sl rfl) (r_args_nil) rfl) (p_len (E := (zL eA)) (xs := left1))) (r_args_nil) rfl) (p_rng1 h_ks3)) rfl (fun _ _ _ => rfl) (fun c4 s5 k6 =>
  sx_hoist fun r7 h_r7 => sx_hoist fun q8 h_q8 => ss_app (e := eA) (E := fun found9 => [some (dst r7.2), some (E row0), some ((zL eA) q8.2), some ((zL eA) found9), some (zI k6)]) rfl (x_popAt (e := eA) rfl (r_call (r_args (r_sl rfl) (r_args (r_V (r_args (r_sl rfl) (r_args_nil) rfl) (p_len (E := (zL eA)) (xs := c4.2.1))) (r_args_nil) rfl) rfl) (s__law_draw  h_r7)) rfl h_q8) rfl (fun _ => rfl) fun found9 =>
  ss_nx ⟨.inl rfl, rfl⟩) fun c4 s5 =>
  ss_ret (r_mv rfl) (⟨rfl, rfl⟩)
theorem s__law_shuffled {A : Type} {eA : A → D} [Im eA] {E : List A → D} [Sq E eA] {d0 : DSt} {row0 : (List A)} {r : (List A) × DSt} (h : t__law_shuffled d0 row0 = some r) : F__law_shuffled [some (dst d0), some (E row0)] = some (.ok ((fun (b : (List A) × DSt) => (zL eA) (b.1)) r) ((fun (b : (List A) × DSt) => [some (dst (b.2)), some (E row0)]) r)) := by
  unfold F__law_shuffled
  exact fn_sim (V := fun (b : (List A) × DSt) => (zL eA) (b.1)) (R := fun (b : (List A) × DSt) => [some (dst (b.2)), some (E row0)]) (by first | rfl | simp [immA, immAt, Im.im]) (m__law_shuffled d0 row0) h
end DL
set_option maxHeartbeats 4000000
namespace DL
open PySem PySem.Spec PyProof.Rows L2
def g_word_names : EM Fl := cSeq (cAsg 1 (cV (cArgs []) gLst)) (cSeq (cFor (cEnum (cV (cArgs [(.sl 0, cSl 0), (.own, cC (.int 2))]) gIx)) (.tup [2, 3]) (cSeq (cFor (cRng gRng1 (cArgs [(.own, cV (cArgs [(.own, cV (cArgs [(.sl 3, cSl 3), (.own, cC (.int 2))]) gIx)]) gLen)])) (.nm 4) (cSeq (cApp 1 (cV (cArgs [(.own, cImm (cSl 2)), (.own, cC (.int 0)), (.own, cImm (cSl 4))]) gTup)) (cNx))) (cSeq (cFor (cRng gRng1 (cArgs [(.own, cV (cArgs [(.own, cV (cArgs [(.sl 3, cSl 3), (.own, cC (.int 3))]) gIx)]) gLen)])) (.nm 4) (cSeq (cApp 1 (cV (cArgs [(.own, cImm (cSl 2)), (.own, cC (.int 1)), (.own, cImm (cSl 4))]) gTup)) (cNx))) (cNx)))) (cSeq (cRet (cV (cArgs [(.sl 1, cSl 1)]) gTuple)) (cNx)))
@[irreducible] def F_word_names : EM D := fnD 5 [1, 2, 3, 4] g_word_names
def g_left_words : EM Fl := cSeq (cAsg 4 (cV (cArgs []) gLst)) (cSeq (cFor (cEnum (cSl 0)) (.tup [5, 6]) (cSeq (cIfS (cBl (cV (cArgs [(.own, cV (cArgs [(.own, cImm (cSl 1)), (.own, cImm (cSl 2)), (.own, cImm (cSl 5))]) gTup), (.sl 3, cSl 3)]) gNin)) (cSeq (cApp 4 (cImm (cSl 6))) (cNx)) (cNx)) (cNx))) (cSeq (cRet (cV (cArgs [(.sl 4, cSl 4)]) gTuple)) (cNx)))
@[irreducible] def F_left_words : EM D := fnD 7 [4, 5, 6] g_left_words
def g_drop_words : EM Fl := cSeq (cAsg 2 (cV (cArgs []) gLst)) (cSeq (cFor (cEnum (cV (cArgs [(.sl 0, cSl 0), (.own, cC (.int 2))]) gIx)) (.tup [3, 4]) (cSeq (cAsg 5 (cCall [.own, .own, .own, .sl 1] F_left_words [] (cArgs [(.own, cV (cArgs [(.sl 4, cSl 4), (.own, cC (.int 2))]) gIx), (.own, cImm (cSl 3)), (.own, cC (.int 0)), (.sl 1, cSl 1)]))) (cSeq (cAsg 6 (cCall [.own, .own, .own, .sl 1] F_left_words [] (cArgs [(.own, cV (cArgs [(.sl 4, cSl 4), (.own, cC (.int 3))]) gIx), (.own, cImm (cSl 3)), (.own, cC (.int 1)), (.sl 1, cSl 1)]))) (cSeq (cIfS (cAnd (cBl (cV (cArgs [(.own, cV (cArgs [(.sl 4, cSl 4), (.own, cC (.int 1))]) gIx), (.own, cC (.str "loop"))]) gEq)) (cBl (cV (cArgs [(.own, cV (cArgs [(.sl 5, cSl 5)]) gLen), (.own, cC (.int 0))]) gEq))) (cSeq (cCt) (cNx)) (cNx)) (cSeq (cIfS (cAnd (cBl (cV (cArgs [(.own, cV (cArgs [(.sl 4, cSl 4), (.own, cC (.int 1))]) gIx), (.own, cC (.str "shut"))]) gEq)) (cBl (cV (cArgs [(.own, cV (cArgs [(.sl 6, cSl 6)]) gLen), (.own, cC (.int 0))]) gEq))) (cSeq (cCt) (cNx)) (cNx)) (cSeq (cApp 2 (cV (cArgs [(.own, cV (cArgs [(.sl 4, cSl 4), (.own, cC (.int 0))]) gIx), (.own, cV (cArgs [(.sl 4, cSl 4), (.own, cC (.int 1))]) gIx), (.own, cImm (cSl 5)), (.own, cImm (cSl 6))]) gTup)) (cNx))))))) (cSeq (cRet (cV (cArgs [(.own, cV (cArgs [(.sl 0, cSl 0), (.own, cC (.int 0))]) gIx), (.own, cV (cArgs [(.sl 0, cSl 0), (.own, cC (.int 1))]) gIx), (.own, cV (cArgs [(.sl 2, cSl 2)]) gTuple)]) gTup)) (cNx)))
@[irreducible] def F_drop_words : EM D := fnD 7 [2, 3, 4, 5, 6] g_drop_words
def g__law_rare : EM Fl := cSeq (cRet (cV (cArgs [(.own, cCall [.sl 0, .sl 1] F__law_draw [0] (cArgs [(.sl 0, cSl 0), (.sl 1, cSl 1)])), (.own, cV (cArgs [(.sl 1, cSl 1), (.own, cC (.int 2))]) gFdiv)]) gEq)) (cNx)
@[irreducible] def F__law_rare : EM D := fnD 2 [] g__law_rare
def g__law_some : EM Fl := cSeq (cAsg 2 (cComp [3] (.nm 3) (cItems (cSl 1)) (cBl (cV (cArgs [(.own, cCall [.sl 0, .own] F__law_draw [0] (cArgs [(.sl 0, cSl 0), (.own, cC (.int 2))])), (.own, cC (.int 1))]) gEq)) (cImm (cSl 3)))) (cSeq (cIfS (cBl (cV (cArgs [(.own, cV (cArgs [(.sl 2, cSl 2)]) gLen), (.own, cC (.int 0))]) gEq)) (cSeq (cAsg 2 (cV (cArgs [(.own, cV (cArgs [(.sl 1, cSl 1), (.own, cCall [.sl 0, .own] F__law_draw [0] (cArgs [(.sl 0, cSl 0), (.own, cV (cArgs [(.sl 1, cSl 1)]) gLen)]))]) gIx)]) gLst)) (cNx)) (cNx)) (cSeq (cRet (cMv 2)) (cNx)))
@[irreducible] def F__law_some : EM D := fnD 4 [2] g__law_some
def g__law_pool : EM Fl := cSeq (cAsg 0 (cC (.str "ld st mb a b2 x y z rel acq sw fx q7 load8 store9 w r0 left turn k0 deep m8 gate aa p t4 even2 ab1 head u v2 "))) (cSeq (cAsg 0 (cV (cArgs [(.sl 0, cSl 0), (.own, cC (.str "low high mid s t e f g h i j k fence1 bar2 one two zz1 near far9 last ring2 aaaaaaa8 b c1 top2 o n c0 l5"))]) gAdd)) (cSeq (cRet (cV (cArgs [(.sl 0, cSl 0)]) (gSplitK " "))) (cNx)))
@[irreducible] def F__law_pool : EM D := fnD 1 [0] g__law_pool
def g__law_is_int : EM Fl := cSeq (cRet (cAndV (cV (cArgs [(.sl 0, cSl 0)]) (gIsi "int")) (cOfB (cNot (cBl (cV (cArgs [(.sl 0, cSl 0)]) (gIsi "bool"))))))) (cNx)
@[irreducible] def F__law_is_int : EM D := fnD 1 [] g__law_is_int
def g__law_letters : EM Fl := cSeq (cAsg 2 (cCall [] F__law_pool [] (cArgs []))) (cSeq (cAsg 3 (cV (cArgs [(.own, cC (.str "read")), (.own, cC (.str "write"))]) gLst)) (cSeq (cFor (cRng gRng1 (cArgs [(.own, cCall [.sl 0, .own] F__law_draw [0] (cArgs [(.sl 0, cSl 0), (.own, cV (cArgs [(.own, cC (.int 1)), (.own, cV (cArgs [(.sl 1, cSl 1), (.own, cC (.int 1))]) gSub)]) gMax2)]))])) (.nm 4) (cSeq (cApp 3 (cCall [.sl 0, .own] F__law_pick [0] (cArgs [(.sl 0, cSl 0), (.own, cV (cArgs [(.own, cC (.str "read")), (.own, cC (.str "write")), (.own, cC (.str "fence")), (.own, cC (.str "fence")), (.own, cC (.str "swap"))]) gLst)]))) (cNx))) (cSeq (cRet (cV (cArgs [(.own, cComp [5] (.nm 5) (cItems (cCall [.sl 0, .sl 3] F__law_shuffled [0] (cArgs [(.sl 0, cSl 0), (.sl 3, cSl 3)]))) (cYes) (cV (cArgs [(.own, cCall [.sl 0, .sl 2] F__law_pop [0, 1] (cArgs [(.sl 0, cSl 0), (.sl 2, cSl 2)])), (.own, cImm (cSl 5))]) gTup))]) gTuple)) (cNx))))
@[irreducible] def F__law_letters : EM D := fnD 6 [2, 3, 4] g__law_letters
def g__law_labels : EM Fl := cSeq (cRet (cV (cArgs [(.own, cC (.str "then")), (.own, cC (.str "seen")), (.own, cC (.str "over")), (.own, cC (.str "past")), (.own, cC (.str "own")), (.own, cC (.str "addr")), (.own, cC (.str "data")), (.own, cC (.str "ctrl"))]) gLst)) (cNx)
@[irreducible] def F__law_labels : EM D := fnD 0 [] g__law_labels
def g__law_sieve : EM Fl := cSeq (cIfS (cBl (cV (cArgs [(.own, cCall [.sl 0, .own] F__law_draw [0] (cArgs [(.sl 0, cSl 0), (.own, cC (.int 3))])), (.own, cC (.int 0))]) gGt)) (cSeq (cRet (cV (cArgs [(.own, cComp [3, 4] (.tup [3, 4]) (cItems (cSl 1)) (cYes) (cImm (cSl 3)))]) gTuple)) (cNx)) (cNx)) (cSeq (cAsg 2 (cCall [.sl 0, .own] F__law_some [0] (cArgs [(.sl 0, cSl 0), (.own, cComp [3, 4] (.tup [3, 4]) (cItems (cSl 1)) (cYes) (cImm (cSl 3)))]))) (cSeq (cRet (cV (cArgs [(.own, cComp [3, 4] (.tup [3, 4]) (cItems (cSl 1)) (cBl (cV (cArgs [(.sl 3, cSl 3), (.sl 2, cSl 2)]) gIn)) (cImm (cSl 3)))]) gTuple)) (cNx)))
@[irreducible] def F__law_sieve : EM D := fnD 5 [2] g__law_sieve
def g__law_filter_for : EM Fl := cSeq (cAsg 4 (cV (cArgs [(.own, cC (.str "seen")), (.own, cV (cArgs [(.own, cC (.str "write")), (.own, cC (.str "swap"))]) gTup), (.own, cC (.str "own")), (.own, cV (cArgs [(.own, cC (.str "write")), (.own, cC (.str "swap"))]) gTup), (.own, cC (.str "over")), (.own, cV (cArgs [(.own, cC (.str "write")), (.own, cC (.str "swap"))]) gTup), (.own, cC (.str "past")), (.own, cV (cArgs [(.own, cC (.str "read"))]) gTup)]) gDisp)) (cSeq (cIfS (cNot (cTr (cSl 3))) (cSeq (cAsg 4 (cV (cArgs [(.own, cC (.str "seen")), (.own, cV (cArgs [(.own, cC (.str "read"))]) gTup), (.own, cC (.str "own")), (.own, cV (cArgs [(.own, cC (.str "read"))]) gTup), (.own, cC (.str "over")), (.own, cV (cArgs [(.own, cC (.str "write")), (.own, cC (.str "swap"))]) gTup), (.own, cC (.str "past")), (.own, cV (cArgs [(.own, cC (.str "write")), (.own, cC (.str "swap"))]) gTup)]) gDisp)) (cNx)) (cNx)) (cSeq (cIfS (cOr (cBl (cV (cArgs [(.sl 2, cSl 2), (.sl 4, cSl 4)]) gNinK)) (cBl (cV (cArgs [(.own, cCall [.sl 0, .own] F__law_draw [0] (cArgs [(.sl 0, cSl 0), (.own, cC (.int 2))])), (.own, cC (.int 0))]) gEq))) (cSeq (cRet (cCall [.sl 0, .sl 1] F__law_sieve [0] (cArgs [(.sl 0, cSl 0), (.sl 1, cSl 1)]))) (cNx)) (cNx)) (cSeq (cAsg 5 (cV (cArgs [(.own, cComp [6, 7] (.tup [6, 7]) (cItems (cSl 1)) (cBl (cV (cArgs [(.sl 7, cSl 7), (.own, cV (cArgs [(.sl 4, cSl 4), (.sl 2, cSl 2)]) gDGet)]) gIn)) (cImm (cSl 6)))]) gTuple)) (cSeq (cIfS (cBl (cV (cArgs [(.own, cV (cArgs [(.sl 5, cSl 5)]) gLen), (.own, cC (.int 0))]) gEq)) (cSeq (cRet (cCall [.sl 0, .sl 1] F__law_sieve [0] (cArgs [(.sl 0, cSl 0), (.sl 1, cSl 1)]))) (cNx)) (cNx)) (cSeq (cRet (cImm (cSl 5))) (cNx))))))
@[irreducible] def F__law_filter_for : EM D := fnD 8 [4, 5] g__law_filter_for
def g__law_word : EM Fl := cSeq (cAsg 3 (cC (.int 1))) (cSeq (cIfS (cAnd (cBl (cV (cArgs [(.sl 2, cSl 2), (.own, cC (.int 1))]) gGt)) (cBl (cV (cArgs [(.own, cCall [.sl 0, .own] F__law_draw [0] (cArgs [(.sl 0, cSl 0), (.own, cC (.int 4))])), (.own, cC (.int 0))]) gEq))) (cSeq (cAsg 3 (cV (cArgs [(.own, cC (.int 2)), (.own, cCall [.sl 0, .own] F__law_draw [0] (cArgs [(.sl 0, cSl 0), (.own, cV (cArgs [(.sl 2, cSl 2), (.own, cC (.int 1))]) gSub)]))]) gAdd)) (cNx)) (cNx)) (cSeq (cAsg 4 (cComp [7] (.nm 7) (cRng gRng1 (cArgs [(.sl 3, cSl 3)])) (cYes) (cCall [.sl 0, .own] F__law_pick [0] (cArgs [(.sl 0, cSl 0), (.own, cV (cArgs [(.own, cCall [] F__law_labels [] (cArgs [])), (.own, cV (cArgs [(.own, cC (.str "then")), (.own, cC (.str "seen")), (.own, cC (.str "over")), (.own, cC (.str "past"))]) gLst)]) gAdd)])))) (cSeq (cAsg 5 (cV (cArgs [(.own, cCall [.sl 0, .sl 1, .own, .own] F__law_filter_for [0] (cArgs [(.sl 0, cSl 0), (.sl 1, cSl 1), (.own, cV (cArgs [(.sl 4, cSl 4), (.own, cC (.int 0))]) gIx), (.own, cC (.bool true))]))]) gLst)) (cSeq (cFor (cItems (cSl 4)) (.nm 6) (cSeq (cApp 5 (cCall [.sl 0, .sl 1, .own, .own] F__law_filter_for [0] (cArgs [(.sl 0, cSl 0), (.sl 1, cSl 1), (.own, cImm (cSl 6)), (.own, cC (.bool false))]))) (cNx))) (cSeq (cRet (cV (cArgs [(.own, cV (cArgs [(.sl 5, cSl 5)]) gTuple), (.own, cV (cArgs [(.sl 4, cSl 4)]) gTuple)]) gTup)) (cNx))))))
@[irreducible] def F__law_word : EM D := fnD 8 [3, 4, 5, 6] g__law_word
def g__law_words : EM Fl := cSeq (cAsg 4 (cV (cArgs []) gLst)) (cSeq (cFor (cRng gRng1 (cArgs [(.sl 2, cSl 2)])) (.nm 5) (cSeq (cAsg 6 (cCall [.sl 0, .sl 1, .sl 3] F__law_word [0] (cArgs [(.sl 0, cSl 0), (.sl 1, cSl 1), (.sl 3, cSl 3)]))) (cSeq (cIfS (cBl (cV (cArgs [(.sl 6, cSl 6), (.sl 4, cSl 4)]) gNin)) (cSeq (cApp 4 (cImm (cSl 6))) (cNx)) (cNx)) (cNx)))) (cSeq (cRet (cMv 4)) (cNx)))
@[irreducible] def F__law_words : EM D := fnD 7 [4, 5, 6] g__law_words
def g__law_same (F : EM D) : EM Fl := cSeq (cIfS (cTr (cV (cArgs [(.sl 1, cSl 1)]) (gIsi "tuple"))) (cSeq (cIfS (cOr (cNot (cTr (cV (cArgs [(.sl 0, cSl 0)]) (gIsi "tuple")))) (cBl (cV (cArgs [(.own, cV (cArgs [(.sl 0, cSl 0)]) gLen), (.own, cV (cArgs [(.sl 1, cSl 1)]) gLen)]) gNe))) (cSeq (cRet (cC (.bool false))) (cNx)) (cNx)) (cSeq (cFor (cRng gRng1 (cArgs [(.own, cV (cArgs [(.sl 1, cSl 1)]) gLen)])) (.nm 2) (cSeq (cIfS (cNot (cTr (cCall [.own, .own] F [] (cArgs [(.own, cV (cArgs [(.sl 0, cSl 0), (.sl 2, cSl 2)]) gIx), (.own, cV (cArgs [(.sl 1, cSl 1), (.sl 2, cSl 2)]) gIx)])))) (cSeq (cRet (cC (.bool false))) (cNx)) (cNx)) (cNx))) (cSeq (cRet (cC (.bool true))) (cNx)))) (cNx)) (cSeq (cIfS (cTr (cV (cArgs [(.sl 1, cSl 1)]) (gIsi "str"))) (cSeq (cRet (cAndV (cV (cArgs [(.sl 0, cSl 0)]) (gIsi "str")) (cV (cArgs [(.sl 0, cSl 0), (.sl 1, cSl 1)]) gEq))) (cNx)) (cNx)) (cSeq (cRet (cAndV (cCall [.sl 0] F__law_is_int [] (cArgs [(.sl 0, cSl 0)])) (cV (cArgs [(.sl 0, cSl 0), (.sl 1, cSl 1)]) gEq))) (cNx)))
@[irreducible] def F__law_same : Nat → EM D := recF fun F => fnD 3 [2] (g__law_same F)
def g__law_listed : EM Fl := cSeq (cAsg 5 (cV (cArgs []) gLst)) (cSeq (cFor (cRng gRng1 (cArgs [(.sl 3, cSl 3)])) (.nm 6) (cSeq (cAsg 7 (cCall [.sl 0, .sl 2] F__law_pick [0] (cArgs [(.sl 0, cSl 0), (.sl 2, cSl 2)]))) (cSeq (cIfS (cBl (cV (cArgs [(.own, cCall [.sl 0, .own] F__law_draw [0] (cArgs [(.sl 0, cSl 0), (.own, cC (.int 2))])), (.own, cC (.int 0))]) gEq)) (cSeq (cAsg 7 (cCall [.sl 0, .sl 1, .own] F__law_word [0] (cArgs [(.sl 0, cSl 0), (.sl 1, cSl 1), (.own, cC (.int 4))]))) (cNx)) (cNx)) (cSeq (cIfS (cAnd (cBl (cV (cArgs [(.sl 7, cSl 7), (.sl 5, cSl 5)]) gNin)) (cBl (cV (cArgs [(.own, cV (cArgs [(.own, cV (cArgs [(.sl 7, cSl 7), (.own, cC (.int 1))]) gIx)]) gLen), (.sl 4, cSl 4)]) gLe))) (cSeq (cAsg 4 (cV (cArgs [(.sl 4, cSl 4), (.own, cV (cArgs [(.own, cV (cArgs [(.sl 7, cSl 7), (.own, cC (.int 1))]) gIx)]) gLen)]) gSub)) (cSeq (cApp 5 (cImm (cSl 7))) (cNx))) (cNx)) (cNx))))) (cSeq (cRet (cV (cArgs [(.sl 5, cSl 5)]) gTuple)) (cNx)))
@[irreducible] def F__law_listed : EM D := fnD 8 [4, 5, 6, 7] g__law_listed
def g__law_broad : EM Fl := cSeq (cAsg 1 (cCall [.sl 0, .own] F__law_letters [0] (cArgs [(.sl 0, cSl 0), (.own, cC (.int 8))]))) (cSeq (cIfS (cTr (cCall [.sl 0, .own] F__law_rare [0] (cArgs [(.sl 0, cSl 0), (.own, cC (.int 6))]))) (cSeq (cAsg 1 (cV (cArgs [(.sl 1, cSl 1), (.own, cC (.int 1))]) gSl01)) (cNx)) (cNx)) (cSeq (cAsg 2 (cCall [.sl 0, .own, .own, .own] F__law_words [0] (cArgs [(.sl 0, cSl 0), (.own, cImm (cSl 1)), (.own, cC (.int 4)), (.own, cC (.int 4))]))) (cSeq (cAsg 3 (cC (.int 24))) (cSeq (cAsg 4 (cV (cArgs []) gLst)) (cSeq (cAsg 5 (cCall [.sl 0, .own] F__law_shuffled [0] (cArgs [(.sl 0, cSl 0), (.own, cV (cArgs [(.own, cC (.str "main")), (.own, cC (.str "b2")), (.own, cC (.str "c")), (.own, cC (.str "aaaaaaaa"))]) gLst)]))) (cSeq (cFor (cItems (cV (cArgs [(.sl 5, cSl 5), (.own, cCall [.sl 0, .own] F__law_draw [0] (cArgs [(.sl 0, cSl 0), (.own, cC (.int 5))]))]) gSl01)) (.nm 6) (cSeq (cAsg 7 (cCall [.sl 0, .own, .sl 2, .own, .own] F__law_listed [0] (cArgs [(.sl 0, cSl 0), (.own, cImm (cSl 1)), (.sl 2, cSl 2), (.own, cCall [.sl 0, .own] F__law_draw [0] (cArgs [(.sl 0, cSl 0), (.own, cC (.int 9))])), (.own, cImm (cSl 3))]))) (cSeq (cAsg 3 (cV (cArgs [(.sl 3, cSl 3), (.own, cV (cArgs [(.own, cComp [9] (.nm 9) (cItems (cSl 7)) (cYes) (cV (cArgs [(.own, cV (cArgs [(.sl 9, cSl 9), (.own, cC (.int 1))]) gIx)]) gLen))]) gSum)]) gSub)) (cSeq (cAsg 8 (cV (cArgs []) gTup)) (cSeq (cIfS (cOr (cBl (cV (cArgs [(.own, cV (cArgs [(.sl 7, cSl 7)]) gLen), (.own, cC (.int 0))]) gEq)) (cBl (cV (cArgs [(.own, cCall [.sl 0, .own] F__law_draw [0] (cArgs [(.sl 0, cSl 0), (.own, cC (.int 2))])), (.own, cC (.int 0))]) gEq))) (cSeq (cAsg 8 (cCall [.sl 0, .own, .sl 2, .own, .own] F__law_listed [0] (cArgs [(.sl 0, cSl 0), (.own, cImm (cSl 1)), (.sl 2, cSl 2), (.own, cV (cArgs [(.own, cC (.int 1)), (.own, cCall [.sl 0, .own] F__law_draw [0] (cArgs [(.sl 0, cSl 0), (.own, cC (.int 6))]))]) gAdd), (.own, cImm (cSl 3))]))) (cSeq (cAsg 3 (cV (cArgs [(.sl 3, cSl 3), (.own, cV (cArgs [(.own, cComp [9] (.nm 9) (cItems (cSl 8)) (cYes) (cV (cArgs [(.own, cV (cArgs [(.sl 9, cSl 9), (.own, cC (.int 1))]) gIx)]) gLen))]) gSum)]) gSub)) (cNx))) (cNx)) (cSeq (cIfS (cBl (cV (cArgs [(.own, cV (cArgs [(.sl 8, cSl 8)]) gLen), (.own, cC (.int 0))]) gGt)) (cSeq (cApp 4 (cV (cArgs [(.own, cImm (cSl 6)), (.own, cC (.str "shut")), (.own, cImm (cSl 7)), (.own, cImm (cSl 8))]) gTup)) (cNx)) (cSeq (cIfS (cBl (cV (cArgs [(.own, cV (cArgs [(.sl 7, cSl 7)]) gLen), (.own, cC (.int 0))]) gGt)) (cSeq (cApp 4 (cV (cArgs [(.own, cImm (cSl 6)), (.own, cC (.str "loop")), (.own, cImm (cSl 7)), (.own, cV (cArgs []) gTup)]) gTup)) (cNx)) (cNx)) (cNx))) (cNx))))))) (cSeq (cRet (cV (cArgs [(.own, cCall [.sl 0, .own] F__law_pick [0] (cArgs [(.sl 0, cSl 0), (.own, cV (cArgs [(.own, cC (.str "m")), (.own, cC (.str "top")), (.own, cC (.str "low8"))]) gLst)])), (.own, cImm (cSl 1)), (.own, cV (cArgs [(.sl 4, cSl 4)]) gTuple)]) gTup)) (cNx))))))))
@[irreducible] def F__law_broad : EM D := fnD 10 [1, 2, 3, 4, 5, 6, 7, 8] g__law_broad
def g__law_named : EM Fl := cSeq (cAsg 1 (cV (cArgs []) gLst)) (cSeq (cFor (cRng gRng1 (cArgs [(.own, cV (cArgs [(.own, cV (cArgs [(.sl 0, cSl 0), (.own, cC (.int 2))]) gIx)]) gLen)])) (.nm 2) (cSeq (cFor (cItems (cV (cArgs [(.own, cC (.int 0)), (.own, cC (.int 1))]) gLst)) (.nm 3) (cSeq (cFor (cRng gRng1 (cArgs [(.own, cV (cArgs [(.own, cV (cArgs [(.own, cV (cArgs [(.own, cV (cArgs [(.sl 0, cSl 0), (.own, cC (.int 2))]) gIx), (.sl 2, cSl 2)]) gIx), (.own, cV (cArgs [(.own, cC (.int 2)), (.sl 3, cSl 3)]) gAdd)]) gIx)]) gLen)])) (.nm 4) (cSeq (cApp 1 (cV (cArgs [(.own, cImm (cSl 2)), (.own, cImm (cSl 3)), (.own, cImm (cSl 4))]) gTup)) (cNx))) (cNx))) (cNx))) (cSeq (cRet (cMv 1)) (cNx)))
@[irreducible] def F__law_named : EM D := fnD 5 [1, 2, 3, 4] g__law_named
def g__law_unnamed : EM Fl := cSeq (cAsg 4 (cV (cArgs [(.own, cV (cArgs [(.own, cV (cArgs [(.sl 0, cSl 0), (.own, cC (.int 2))]) gIx), (.sl 1, cSl 1)]) gIx), (.own, cV (cArgs [(.own, cC (.int 2)), (.sl 2, cSl 2)]) gAdd)]) gIx)) (cSeq (cRet (cComp [5] (.nm 5) (cRng gRng1 (cArgs [(.own, cV (cArgs [(.sl 4, cSl 4)]) gLen)])) (cBl (cV (cArgs [(.own, cV (cArgs [(.own, cImm (cSl 1)), (.own, cImm (cSl 2)), (.own, cImm (cSl 5))]) gTup), (.sl 3, cSl 3)]) gNin)) (cV (cArgs [(.sl 4, cSl 4), (.sl 5, cSl 5)]) gIx))) (cNx))
@[irreducible] def F__law_unnamed : EM D := fnD 6 [4] g__law_unnamed
def g__law_stays : EM Fl := cSeq (cAsg 3 (cIfE (cBl (cV (cArgs [(.own, cV (cArgs [(.own, cV (cArgs [(.own, cV (cArgs [(.sl 0, cSl 0), (.own, cC (.int 2))]) gIx), (.sl 1, cSl 1)]) gIx), (.own, cC (.int 1))]) gIx), (.own, cC (.str "loop"))]) gEq)) (cC (.int 0)) (cC (.int 1)))) (cSeq (cRet (cV (cArgs [(.own, cV (cArgs [(.own, cCall [.sl 0, .sl 1, .own, .sl 2] F__law_unnamed [] (cArgs [(.sl 0, cSl 0), (.sl 1, cSl 1), (.own, cImm (cSl 3)), (.sl 2, cSl 2)]))]) gLen), (.own, cC (.int 0))]) gGt)) (cNx))
@[irreducible] def F__law_stays : EM D := fnD 4 [3] g__law_stays
def g__law_left : EM Fl := cSeq (cAsg 2 (cV (cArgs []) gLst)) (cSeq (cFor (cRng gRng1 (cArgs [(.own, cV (cArgs [(.own, cV (cArgs [(.sl 0, cSl 0), (.own, cC (.int 2))]) gIx)]) gLen)])) (.nm 3) (cSeq (cIfS (cTr (cCall [.sl 0, .own, .sl 1] F__law_stays [] (cArgs [(.sl 0, cSl 0), (.own, cImm (cSl 3)), (.sl 1, cSl 1)]))) (cSeq (cAsg 4 (cV (cArgs [(.own, cCall [.sl 0, .own, .own, .sl 1] F__law_unnamed [] (cArgs [(.sl 0, cSl 0), (.own, cImm (cSl 3)), (.own, cC (.int 0)), (.sl 1, cSl 1)]))]) gTuple)) (cSeq (cAsg 5 (cV (cArgs [(.own, cCall [.sl 0, .own, .own, .sl 1] F__law_unnamed [] (cArgs [(.sl 0, cSl 0), (.own, cImm (cSl 3)), (.own, cC (.int 1)), (.sl 1, cSl 1)]))]) gTuple)) (cSeq (cApp 2 (cV (cArgs [(.own, cV (cArgs [(.own, cV (cArgs [(.own, cV (cArgs [(.sl 0, cSl 0), (.own, cC (.int 2))]) gIx), (.sl 3, cSl 3)]) gIx), (.own, cC (.int 0))]) gIx), (.own, cV (cArgs [(.own, cV (cArgs [(.own, cV (cArgs [(.sl 0, cSl 0), (.own, cC (.int 2))]) gIx), (.sl 3, cSl 3)]) gIx), (.own, cC (.int 1))]) gIx), (.own, cImm (cSl 4)), (.own, cImm (cSl 5))]) gTup)) (cNx)))) (cNx)) (cNx))) (cSeq (cRet (cV (cArgs [(.own, cV (cArgs [(.sl 0, cSl 0), (.own, cC (.int 0))]) gIx), (.own, cV (cArgs [(.sl 0, cSl 0), (.own, cC (.int 1))]) gIx), (.own, cV (cArgs [(.sl 2, cSl 2)]) gTuple)]) gTup)) (cNx)))
@[irreducible] def F__law_left : EM D := fnD 6 [2, 3, 4, 5] g__law_left
def g__law_moved : EM Fl := cSeq (cAsgT [3, 4, 5] (cImm (cSl 2))) (cSeq (cIfS (cOr (cBl (cV (cArgs [(.sl 2, cSl 2), (.sl 1, cSl 1)]) gIn)) (cNot (cTr (cCall [.sl 0, .own, .sl 1] F__law_stays [] (cArgs [(.sl 0, cSl 0), (.own, cImm (cSl 3)), (.sl 1, cSl 1)]))))) (cSeq (cRet (cC .none)) (cNx)) (cNx)) (cSeq (cAsg 6 (cV (cArgs [(.own, cComp [7] (.nm 7) (cRng gRng1 (cArgs [(.sl 3, cSl 3)])) (cTr (cCall [.sl 0, .own, .sl 1] F__law_stays [] (cArgs [(.sl 0, cSl 0), (.own, cImm (cSl 7)), (.sl 1, cSl 1)]))) (cImm (cSl 7)))]) gLen)) (cSeq (cRet (cV (cArgs [(.own, cImm (cSl 6)), (.own, cImm (cSl 4)), (.own, cV (cArgs [(.own, cComp [7] (.nm 7) (cRng gRng1 (cArgs [(.sl 5, cSl 5)])) (cBl (cV (cArgs [(.own, cV (cArgs [(.own, cImm (cSl 3)), (.own, cImm (cSl 4)), (.own, cImm (cSl 7))]) gTup), (.sl 1, cSl 1)]) gNin)) (cImm (cSl 7)))]) gLen)]) gTup)) (cNx))))
@[irreducible] def F__law_moved : EM D := fnD 8 [3, 4, 5, 6] g__law_moved
def g__law_gone : EM Fl := cSeq (cAsg 2 (cCall [.sl 1] F__law_named [] (cArgs [(.sl 1, cSl 1)]))) (cSeq (cAsg 3 (cCall [.sl 0, .own] F__law_draw [0] (cArgs [(.sl 0, cSl 0), (.own, cC (.int 8))]))) (cSeq (cIfS (cOr (cBl (cV (cArgs [(.own, cV (cArgs [(.sl 2, cSl 2)]) gLen), (.own, cC (.int 0))]) gEq)) (cBl (cV (cArgs [(.sl 3, cSl 3), (.own, cC (.int 0))]) gEq))) (cSeq (cRet (cV (cArgs []) gLst)) (cNx)) (cNx)) (cSeq (cAsg 4 (cCall [.sl 0, .sl 2] F__law_pick [0] (cArgs [(.sl 0, cSl 0), (.sl 2, cSl 2)]))) (cSeq (cIfS (cBl (cV (cArgs [(.sl 3, cSl 3), (.own, cC (.int 1))]) gEq)) (cSeq (cRet (cMv 2)) (cNx)) (cNx)) (cSeq (cIfS (cBl (cV (cArgs [(.sl 3, cSl 3), (.own, cC (.int 2))]) gEq)) (cSeq (cRet (cV (cArgs [(.own, cImm (cSl 4))]) gLst)) (cNx)) (cNx)) (cSeq (cIfS (cBl (cV (cArgs [(.sl 3, cSl 3), (.own, cC (.int 3))]) gEq)) (cSeq (cRet (cComp [5] (.nm 5) (cItems (cSl 2)) (cBl (cV (cArgs [(.sl 5, cSl 5), (.sl 4, cSl 4)]) gNe)) (cImm (cSl 5)))) (cNx)) (cNx)) (cSeq (cIfS (cBl (cV (cArgs [(.sl 3, cSl 3), (.own, cC (.int 4))]) gEq)) (cSeq (cRet (cComp [5] (.nm 5) (cItems (cSl 2)) (cBl (cV (cArgs [(.own, cV (cArgs [(.sl 5, cSl 5), (.own, cC (.int 2))]) gSl01), (.own, cV (cArgs [(.sl 4, cSl 4), (.own, cC (.int 2))]) gSl01)]) gEq)) (cImm (cSl 5)))) (cNx)) (cNx)) (cSeq (cIfS (cBl (cV (cArgs [(.sl 3, cSl 3), (.own, cC (.int 5))]) gEq)) (cSeq (cRet (cComp [5] (.nm 5) (cItems (cSl 2)) (cAnd (cBl (cV (cArgs [(.own, cV (cArgs [(.sl 5, cSl 5), (.own, cC (.int 0))]) gIx), (.own, cV (cArgs [(.sl 4, cSl 4), (.own, cC (.int 0))]) gIx)]) gEq)) (cBl (cV (cArgs [(.sl 5, cSl 5), (.sl 4, cSl 4)]) gNe))) (cImm (cSl 5)))) (cNx)) (cNx)) (cSeq (cRet (cComp [5] (.nm 5) (cItems (cSl 2)) (cBl (cV (cArgs [(.own, cCall [.sl 0, .own] F__law_draw [0] (cArgs [(.sl 0, cSl 0), (.own, cC (.int 3))])), (.own, cC (.int 0))]) gGt)) (cImm (cSl 5)))) (cNx))))))))))
@[irreducible] def F__law_gone : EM D := fnD 6 [2, 3, 4] g__law_gone
def g_law : EM Fl := cSeq (cAsg 2 (cCall [.sl 1] F__law_broad [0] (cArgs [(.sl 1, cSl 1)]))) (cSeq (cAsg 3 (cCall [.sl 1] F__law_broad [0] (cArgs [(.sl 1, cSl 1)]))) (cSeq (cFor (cItems (cV (cArgs [(.own, cImm (cSl 2)), (.own, cImm (cSl 3)), (.own, cImm (cSl 2))]) gLst)) (.nm 4) (cSeq (cIfS (cNot (cTr (cCall [.own, .own] (F__law_same 12) [] (cArgs [(.own, cCall [.own] F_word_names [] (cArgs [(.own, cImm (cSl 4))])), (.own, cV (cArgs [(.own, cCall [.own] F__law_named [] (cArgs [(.own, cImm (cSl 4))]))]) gTuple)])))) (cSeq (cRet (cC (.bool false))) (cNx)) (cNx)) (cSeq (cIfS (cNot (cTr (cCall [.own, .own] (F__law_same 12) [] (cArgs [(.own, cCall [.own, .own] F_drop_words [] (cArgs [(.own, cImm (cSl 4)), (.own, cV (cArgs []) gTup)])), (.own, cImm (cSl 4))])))) (cSeq (cRet (cC (.bool false))) (cNx)) (cNx)) (cSeq (cIfS (cNot (cTr (cCall [.own, .own] (F__law_same 12) [] (cArgs [(.own, cCall [.own, .own] F_drop_words [] (cArgs [(.own, cImm (cSl 4)), (.own, cV (cArgs [(.own, cCall [.own] F__law_named [] (cArgs [(.own, cImm (cSl 4))]))]) gTuple)])), (.own, cV (cArgs [(.own, cV (cArgs [(.sl 4, cSl 4), (.own, cC (.int 0))]) gIx), (.own, cV (cArgs [(.sl 4, cSl 4), (.own, cC (.int 1))]) gIx), (.own, cV (cArgs []) gTup)]) gTup)])))) (cSeq (cRet (cC (.bool false))) (cNx)) (cNx)) (cSeq (cAsg 5 (cCall [.sl 1, .own] F__law_gone [0] (cArgs [(.sl 1, cSl 1), (.own, cImm (cSl 4))]))) (cSeq (cAsg 6 (cCall [.own, .sl 5] F__law_left [] (cArgs [(.own, cImm (cSl 4)), (.sl 5, cSl 5)]))) (cSeq (cAsg 7 (cCall [.own, .own] F_drop_words [] (cArgs [(.own, cImm (cSl 4)), (.own, cV (cArgs [(.own, cCall [.sl 1, .sl 5] F__law_shuffled [0] (cArgs [(.sl 1, cSl 1), (.sl 5, cSl 5)]))]) gTuple)]))) (cSeq (cIfS (cOr (cNot (cTr (cCall [.own, .own] (F__law_same 12) [] (cArgs [(.own, cImm (cSl 7)), (.own, cImm (cSl 6))])))) (cNot (cTr (cCall [.own, .own] (F__law_same 12) [] (cArgs [(.own, cCall [.own] F_word_names [] (cArgs [(.own, cImm (cSl 7))])), (.own, cV (cArgs [(.own, cCall [.own] F__law_named [] (cArgs [(.own, cImm (cSl 6))]))]) gTuple)]))))) (cSeq (cRet (cC (.bool false))) (cNx)) (cNx)) (cSeq (cAsg 8 (cCall [.sl 1, .own] F__law_gone [0] (cArgs [(.sl 1, cSl 1), (.own, cImm (cSl 4))]))) (cSeq (cAsg 9 (cComp [11] (.nm 11) (cItems (cCall [.sl 1, .sl 8] F__law_shuffled [0] (cArgs [(.sl 1, cSl 1), (.sl 8, cSl 8)]))) (cYes) (cCall [.own, .sl 5, .own] F__law_moved [] (cArgs [(.own, cImm (cSl 4)), (.sl 5, cSl 5), (.own, cImm (cSl 11))])))) (cSeq (cAsg 10 (cCall [.own, .own] F__law_left [] (cArgs [(.own, cImm (cSl 4)), (.own, cV (cArgs [(.sl 5, cSl 5), (.own, cComp [11] (.nm 11) (cItems (cSl 8)) (cBl (cV (cArgs [(.sl 11, cSl 11), (.sl 5, cSl 5)]) gNin)) (cImm (cSl 11)))]) gAdd)]))) (cSeq (cIfS (cNot (cTr (cCall [.own, .own] (F__law_same 12) [] (cArgs [(.own, cCall [.own, .own] F_drop_words [] (cArgs [(.own, cImm (cSl 7)), (.own, cV (cArgs [(.own, cComp [11] (.nm 11) (cItems (cSl 9)) (EM.bind (cSl 11) fun d δ => some (.ok (!isN d) δ)) (cImm (cSl 11)))]) gTuple)])), (.own, cImm (cSl 10))])))) (cSeq (cRet (cC (.bool false))) (cNx)) (cNx)) (cSeq (cIfS (cNot (cTr (cCall [.own, .own] (F__law_same 12) [] (cArgs [(.own, cCall [.own, .own] F_drop_words [] (cArgs [(.own, cImm (cSl 4)), (.own, cV (cArgs [(.own, cV (cArgs [(.sl 5, cSl 5), (.own, cComp [11] (.nm 11) (cItems (cSl 8)) (cBl (cV (cArgs [(.sl 11, cSl 11), (.sl 5, cSl 5)]) gNin)) (cImm (cSl 11)))]) gAdd)]) gTuple)])), (.own, cImm (cSl 10))])))) (cSeq (cRet (cC (.bool false))) (cNx)) (cNx)) (cNx)))))))))))))) (cSeq (cRet (cC (.bool true))) (cNx))))
end DL
set_option maxHeartbeats 1000000
/-! PS: the laws' own comparison (_law_same), where both are the same. -/
namespace DL
open PySem PySem.Spec PyProof.Rows L2
local macro_rules | `(tactic| walk_at "w1") => `(tactic| first
  | ((with_reducible apply w_sl); exact rfl) | ((with_reducible apply w_setK); exact rfl) | ((with_reducible apply w_alias); exact rfl) | ((with_reducible apply w_popAt); exact rfl) | ((with_reducible apply w_mv); exact rfl) | ((with_reducible apply w_augI); exact rfl) | ((with_reducible apply w_setI); exact rfl) | ((with_reducible apply w_app); exact rfl) 
  | with_reducible first
  | apply w_seq | apply w_cont | apply w_contR | apply w_nx | apply w_contC | apply w_contB | apply w_if | apply w_ret | apply w_retN | apply w_asg | apply w_drop
  | apply w_asgT | apply w_args_nil | apply w_args | apply w_V | apply w_c | apply w_imm | apply w_bl | apply w_tr
  | apply w_not | apply w_and | apply w_or | apply w_ofB | apply w_ifE | apply w_call | apply w_items | apply w_enum | apply w_rng
  | apply w_map0 | apply w_map1 | apply w_map2 | apply w_map3 | apply w_map4 | apply w_map5 | apply w_map6 | apply w_for | apply w_yes | apply p_iteT | apply p_iteF | apply w_intC | apply w_ok)
local macro_rules | `(tactic| walk_at "side") => `(tactic| first | assumption | omega | with_reducible rfl | rfl | decide | (simp only [decide_eq_true_eq, decide_eq_false_iff_not, List.length_map]; omega))
local macro_rules | `(tactic| walk_at "num") => `(tactic| first | omega | (refine ⟨by omega, by omega⟩) | (show CDiv _ _; exact ⟨by omega, by omega⟩) | (show CMul _ _; first | exact .inl ⟨by omega, by omega⟩ | exact .inr ⟨by omega, by omega⟩) | (show CPow _ _; exact ⟨by decide, by decide, by decide⟩))
local macro_rules | `(tactic| walk_at "val") => `(tactic| first
  | assumption
  | ((with_reducible apply DL.v_mul); walk_at "num") | ((with_reducible apply DL.v_fdiv); walk_at "num") | ((with_reducible apply DL.v_mod); omega) | ((with_reducible apply DL.v_adds); walk_at "num") | ((with_reducible apply DL.v_len_str); walk_at "side") | (with_reducible exact DL.v_len_list) | ((with_reducible apply DL.v_rng1); omega)
  | ((with_reducible apply DL.v_lst); decide) | ((with_reducible apply DL.v_list_l); assumption) | ((with_reducible apply DL.v_addl) <;> walk_at "side") | walk_at "val2" | exact rfl)
local macro_rules | `(tactic| walk_at "val2") => `(tactic| fail)
local macro_rules | `(tactic| walk_at "ex") => `(tactic| first | refine ⟨_, by walk_at "val", ?_⟩ | refine ⟨rfl, ?_⟩)
local macro_rules | `(tactic| walk_at "br") => `(tactic| first | (with_reducible refine w_iteT (by walk_at "side") ?_) | (with_reducible refine w_iteF (by walk_at "side") ?_) | ((with_reducible apply w_iteD) <;> intro) | ((with_reducible apply w_ite) <;> intro))
local macro_rules | `(tactic| walk_at "go") => `(tactic| repeat' (first | walk_at "w1" | exact rfl | walk_at "more" | walk_at "br" | walk_at "ex" | fail))
local macro_rules | `(tactic| walk_at "more") => `(tactic| fail)
/-- ints, texts and tuples of these, nested at most n deep -/
def plainN : Nat → D → Bool
  | _, .int _ => true
  | _, .str z => decide (z.length ≤ 1000000)
  | n + 1, .tuple ds => decide (ds.length ≤ 1000) && ds.all (plainN n)
  | _, _ => false
theorem plainN_imm : ∀ (n : Nat) (d : D), plainN n d = true → imm d = true
  | _, .int _, _ => rfl
  | _, .str _, _ => rfl
  | n + 1, .tuple ds, h => by
    rw [plainN, Bool.and_eq_true] at h
    rw [imm_tup]
    exact imms_of fun d m => plainN_imm n d (List.all_eq_true.mp h.2 d m)
  | 0, .tuple ds, h => by rw [plainN] at h; cases h; all_goals simp
  | n, .none, h => by cases n <;> (rw [plainN] at h; cases h; all_goals simp)
  | n, .bool _, h => by cases n <;> (rw [plainN] at h; cases h; all_goals simp)
  | n, .list _, h => by cases n <;> (rw [plainN] at h; cases h; all_goals simp)
  | n, .dict _, h => by cases n <;> (rw [plainN] at h; cases h; all_goals simp)
theorem same_eq : ∀ (n : Nat) (d e : D), plainN n d = true → plainN n e = true → PyData.eqv d e = true → d = e := fun n => by
  induction n with
  | zero =>
    intro d e h1 h2 h3
    cases d <;> cases e <;> first | (cases h1; done) | (cases h2; done) | (cases h3; done) | skip
    · rw [PyData.eqv] at h3; rw [beq_iff_eq] at h3; rw [h3]
    · rw [PyData.eqv] at h3; rw [beq_iff_eq] at h3; rw [h3]
  | succ n ih =>
    intro d e h1 h2 h3
    cases d <;> cases e <;> first | (cases h1; done) | (cases h2; done) | (cases h3; done) | skip
    · rw [PyData.eqv] at h3; rw [beq_iff_eq] at h3; rw [h3]
    · rw [PyData.eqv] at h3; rw [beq_iff_eq] at h3; rw [h3]
    · rename_i ds es
      rw [plainN, Bool.and_eq_true] at h1 h2
      rw [PyData.eqv] at h3
      have key : ∀ (ds es : List D), (∀ d ∈ ds, plainN n d = true) → (∀ d ∈ es, plainN n d = true) → PyData.eqvAll ds es = true → ds = es := fun ds => by
        induction ds with
        | nil => intro es _ _ h; cases es; rfl; cases h
        | cons x r ih2 =>
          intro es ha hb h
          cases es with
          | nil => cases h
          | cons y t =>
            rw [PyData.eqvAll, Bool.and_eq_true] at h
            rw [ih x y (ha x List.mem_cons_self) (hb y List.mem_cons_self) h.1, ih2 t (fun d m => ha d (List.mem_cons_of_mem _ m)) (fun d m => hb d (List.mem_cons_of_mem _ m)) h.2]
      rw [key ds es (fun d m => List.all_eq_true.mp h1.2 d m) (fun d m => List.all_eq_true.mp h2.2 d m) h3]
theorem eqv_self : ∀ (n : Nat) (d : D), plainN n d = true → PyData.eqv d d = true := fun n => by
  induction n with
  | zero =>
    intro d h
    cases d <;> first | (cases h; done) | skip
    · rw [PyData.eqv]; exact beq_self_eq_true _
    · rw [PyData.eqv]; exact beq_self_eq_true _
  | succ n ih =>
    intro d h
    cases d <;> first | (cases h; done) | skip
    · rw [PyData.eqv]; exact beq_self_eq_true _
    · rw [PyData.eqv]; exact beq_self_eq_true _
    · rename_i ds
      rw [plainN, Bool.and_eq_true] at h
      rw [PyData.eqv]
      have key : ∀ (ds : List D), (∀ d ∈ ds, plainN n d = true) → PyData.eqvAll ds ds = true := fun ds => by
        induction ds with
        | nil => intro _; rfl
        | cons x r ih2 =>
          intro ha
          rw [PyData.eqvAll, ih x (ha x List.mem_cons_self), ih2 (fun d m => ha d (List.mem_cons_of_mem _ m))]; rfl
      exact key ds fun d m => List.all_eq_true.mp h.2 d m
theorem is_int_w0 {i : Int} {Q : D → DEnv → Prop} (h : Q (.bool true) [some (.int i)]) : wp (F__law_is_int [some (.int i)]) Q := by
  unfold F__law_is_int
  apply w_fn rfl
  exact ⟨.rt (.bool true), _, rfl, h⟩
abbrev Rsame : Nat → EM D := recF fun F => fnD 3 [2] (g__law_same F)
theorem same_ok : ∀ (n : Nat) (d : D), plainN n d = true → Rsame (n + 1) [some d, some d] = some (.ok (.bool true) [some d, some d]) := fun n => by
  have flat : ∀ (n : Nat) (d : D), (∃ i, d = .int i) ∨ (∃ z, d = .str z) → Rsame (n + 1) [some d, some d] = some (.ok (.bool true) [some d, some d]) := fun n d h => by
    show fnD 3 [2] (g__law_same (Rsame n)) [some d, some d] = _
    rcases h with ⟨i, rfl⟩ | ⟨z, rfl⟩
    · have hi : F__law_is_int [some (.int i)] = some (.ok (.bool true) [some (.int i)]) := by
        obtain ⟨_, _, e, h1, h2⟩ := is_int_w0 (i := i) (Q := fun d δ => d = .bool true ∧ δ = [some (.int i)]) ⟨rfl, rfl⟩
        rw [e, h1, h2]
      have hg : g__law_same (Rsame n) [some (.int i), some (.int i), none] = some (.ok (.rt (.bool true)) [some (.int i), some (.int i), none]) := by
        unfold g__law_same
        refine r_seq (r_ifF rfl rfl) (r_seq (r_ifF rfl rfl) (r_seqR (r_ret (r_andV (r_call (r_args (r_sl rfl) r_args_nil rfl) hi) ?_))))
        refine r_V (r_args (r_sl rfl) (r_args (r_sl rfl) r_args_nil rfl) rfl) ?_
        show some (PyData.bool (decide (i = i))) = _
        rw [decide_eq_true rfl]
      exact r_fn rfl hg rfl
    · have hg : g__law_same (Rsame n) [some (.str z), some (.str z), none] = some (.ok (.rt (.bool true)) [some (.str z), some (.str z), none]) := by
        unfold g__law_same
        refine r_seq (r_ifF rfl rfl) (r_seqM (r_ifT rfl (r_seqM (r_ret (r_andV (b := true) rfl ?_)) r_contR)) r_contR)
        refine r_V (r_args (r_sl rfl) (r_args (r_sl rfl) r_args_nil rfl) rfl) ?_
        show some (PyData.bool (decide (z = z))) = _
        rw [decide_eq_true rfl]
      exact r_fn rfl hg rfl
  induction n with
  | zero =>
    intro d h
    cases d <;> first | (cases h; done) | skip
    · exact flat 0 _ (.inl ⟨_, rfl⟩)
    · exact flat 0 _ (.inr ⟨_, rfl⟩)
  | succ n ih =>
    intro d h
    cases d <;> first | (cases h; done) | skip
    · exact flat _ _ (.inl ⟨_, rfl⟩)
    · exact flat _ _ (.inr ⟨_, rfl⟩)
    · rename_i ds
      rw [plainN, Bool.and_eq_true, decide_eq_true_eq] at h
      obtain ⟨hl, hd⟩ := h
      show fnD 3 [2] (g__law_same (Rsame (n + 1))) [some (.tuple ds), some (.tuple ds)] = _
      have lp : ∀ (m : Nat) (k : Nat) (o : Option D), k + m = ds.length → ∃ o', cLoop (.nm 2) (cSeq (cIfS (cNot (cTr (cCall [.own, .own] (Rsame (n + 1)) [] (cArgs [(.own, cV (cArgs [(.sl 0, cSl 0), (.sl 2, cSl 2)]) gIx), (.own, cV (cArgs [(.sl 1, cSl 1), (.sl 2, cSl 2)]) gIx)])))) (cSeq (cRet (cC (.bool false))) (cNx)) (cNx)) (cNx)) ((List.range' k m).map fun (i : Nat) => PyData.int (i : Int)) [some (.tuple ds), some (.tuple ds), o] = some (.ok .nx [some (.tuple ds), some (.tuple ds), o']) := fun m => by
        induction m with
        | zero => intro k o _; exact ⟨o, rfl⟩
        | succ m ihm =>
          intro k o hk
          obtain ⟨o', e⟩ := ihm (k + 1) (some (.int k)) (by omega)
          refine ⟨o', ?_⟩
          have hkl : k < ds.length := by omega
          have hat : gIx [.tuple ds, .int (k : Int)] = some ds[k] := v_ix (ix_tuple (atI_nat (List.getElem?_eq_getElem hkl))) (plainN_imm n _ (List.all_eq_true.mp hd _ (List.getElem_mem hkl)))
          have hc := ih ds[k] (List.all_eq_true.mp hd _ (List.getElem_mem hkl))
          have hb : (cSeq (cIfS (cNot (cTr (cCall [.own, .own] (Rsame (n + 1)) [] (cArgs [(.own, cV (cArgs [(.sl 0, cSl 0), (.sl 2, cSl 2)]) gIx), (.own, cV (cArgs [(.sl 1, cSl 1), (.sl 2, cSl 2)]) gIx)])))) (cSeq (cRet (cC (.bool false))) (cNx)) (cNx)) (cNx)) [some (.tuple ds), some (.tuple ds), some (.int (k : Int))] = some (.ok .nx [some (.tuple ds), some (.tuple ds), some (.int (k : Int))]) := by
            refine r_seq (r_ifF (r_not (r_tr (r_call (r_args (r_V (r_args (r_sl rfl) (r_args (r_sl rfl) r_args_nil rfl) rfl) hat) (r_args (r_V (r_args (r_sl rfl) (r_args (r_sl rfl) r_args_nil rfl) rfl) hat) r_args_nil rfl) rfl) hc) rfl)) rfl) rfl
          rw [List.range'_succ, List.map_cons, cLoop]
          dsimp only
          rw [show bindT (.nm 2) (.int (k : Int)) [some (.tuple ds), some (.tuple ds), o] = some [some (.tuple ds), some (.tuple ds), some (.int (k : Int))] from rfl]
          dsimp only
          rw [hb]
          exact e
      obtain ⟨o', hlp⟩ := lp ds.length 0 none (by omega)
      have hr : rangeD 0 ds.length = (List.range' 0 ds.length).map fun (i : Nat) => PyData.int (i : Int) := by
        unfold rangeD
        rw [List.range_eq_range']
        congr 1
        funext i
        rw [Int.zero_add]
      have hne : gNe [.int (ds.length : Int), .int (ds.length : Int)] = some (.bool false) := by
        show some (PyData.bool (!decide ((ds.length : Int) = ds.length))) = _
        rw [decide_eq_true rfl]; rfl
      have hg : g__law_same (Rsame (n + 1)) [some (.tuple ds), some (.tuple ds), none] = some (.ok (.rt (.bool true)) [some (.tuple ds), some (.tuple ds), o']) := by
        unfold g__law_same
        refine r_seqM (r_ifT rfl (r_seq (r_ifF (r_or (b := false) rfl (r_bl (r_V (r_args (r_V (r_args (r_sl rfl) r_args_nil rfl) rfl) (r_args (r_V (r_args (r_sl rfl) r_args_nil rfl) rfl) r_args_nil rfl) rfl) hne))) rfl) (r_seq (r_for (r_rng (r_args (r_V (r_args (r_sl rfl) r_args_nil rfl) rfl) r_args_nil rfl) (v_rng1 (by omega))) ?_) (r_seqM (r_ret r_c) r_contR)))) r_contR
        rw [Int.toNat_natCast, hr]
        exact hlp
      exact r_fn rfl hg rfl
def t__law_same (a b : ID) : Option Bool := if (plainN 10 a.d && plainN 10 b.d && PyData.eqv a.d b.d) = true then some true else none
theorem s__law_same {told0 due0 : ID} {r : Bool} (h : t__law_same told0 due0 = some r) : F__law_same 12 [some (zX told0), some (zX due0)] = some (.ok (zB r) [some (zX told0), some (zX due0)]) := by
  unfold t__law_same at h
  split at h
  · rename_i hc
    cases h
    rw [Bool.and_eq_true, Bool.and_eq_true] at hc
    have e := same_eq 10 _ _ hc.1.1 hc.1.2 hc.2
    have h1 : plainN 11 told0.d = true := by
      have up : ∀ (n : Nat) (d : D), plainN n d = true → plainN (n + 1) d = true := fun n => by
        induction n with
        | zero => intro d h; cases d <;> first | (cases h; done) | exact h
        | succ n ih =>
          intro d h
          cases d <;> first | (cases h; done) | skip
          · exact h
          · exact h
          · rw [plainN, Bool.and_eq_true] at h ⊢
            exact ⟨h.1, List.all_eq_true.mpr fun d m => ih d (List.all_eq_true.mp h.2 d m)⟩
      exact up 10 _ hc.1.1
    have := same_ok 11 told0.d h1
    unfold F__law_same
    show Rsame 12 [some told0.d, some due0.d] = some (.ok (.bool true) [some told0.d, some due0.d])
    rw [← e]
    exact this
  · cases h
end DL
set_option maxHeartbeats 1000000
namespace DL
open PySem PySem.Spec PyProof.Rows L2
abbrev Letters : Type := (List (TX × TX))
abbrev eLetters : Letters → D := (zT (z2 zS zS))
abbrev Word : Type := ((List (List TX)) × (List TX))
abbrev eWord : Word → D := (z2 (zT (zT zS)) (zT zS))
abbrev Bar : Type := (TX × TX × (List Word) × (List Word))
abbrev eBar : Bar → D := (z4 zS zS (zT eWord) (zT eWord))
abbrev Mach : Type := (TX × Letters × (List Bar))
abbrev eMach : Mach → D := (z3 zS eLetters (zT eBar))
abbrev Lean : Type := (TX × Int)
abbrev eLean : Lean → D := (z2 zS zI)
abbrev Op : Type := (TX × TX × (List Lean))
abbrev eOp : Op → D := (z3 zS zS (zT eLean))
abbrev Core : Type := (List Op)
abbrev eCore : Core → D := (zT eOp)
abbrev Prog : Type := (List Core)
abbrev eProg : Prog → D := (zT eCore)
abbrev Row : Type := (Int × Int × TX × TX × TX)
abbrev eRow : Row → D := (z5 zI zI zS zS zS)
def t_word_names (machine0 : Mach) : Option ((List (Int × Int × Int))) :=
  bnd ([] : List (Int × Int × Int)) fun names1 =>
  (foldT (fun (c2 : (List (Int × Int × Int))) p4 =>
  (rng1 ((p4.2.2.2.1).length : Int)).bind fun ks5 => (foldT (fun (c6 : (List (Int × Int × Int))) index8 =>
  (appO c6 (p4.1, (0 : Int), index8)).bind fun names9 =>
  some names9) ks5 c2).bind fun c6 =>
  (rng1 ((p4.2.2.2.2).length : Int)).bind fun ks10 => (foldT (fun (c11 : (List (Int × Int × Int))) index13 =>
  (appO c11 (p4.1, (1 : Int), index13)).bind fun names14 =>
  some names14) ks10 c6).bind fun c11 =>
  some c11) (enumT machine0.2.2) names1).bind fun c2 =>
  some c2
theorem m_word_names (machine0 : Mach) : SimX g_word_names ([some (eMach machine0), none, none, none, none] : DEnv) (t_word_names machine0) (FnK [1, 2, 3, 4] [some (eMach machine0)] (fun (b : (List (Int × Int × Int))) => (zT (z3 zI zI zI)) (b)) (fun (b : (List (Int × Int × Int))) => [some (eMach machine0)])) := by
  unfold g_word_names t_word_names
  exact ss_asg (e := (zL (z3 zI zI zI))) (E := fun names1 => [some (eMach machine0), some ((zL (z3 zI zI zI)) names1), none, none, none]) (r_V (r_args_nil) (v_lst (Nat.le_of_ble_eq_true rfl))) rfl (fun _ => rfl) fun names1 =>
  ss_fold (s0 := fun _ => none) (e := (z2 zI eBar)) (fun (c2 : (List (Int × Int × Int))) (s3 : Nat → Option D) => [some (eMach machine0), some ((zL (z3 zI zI zI)) c2), s3 2, s3 3, s3 4]) (fun (c2 : (List (Int × Int × Int))) (s3 : Nat → Option D) p4 => [some (eMach machine0), some ((zL (z3 zI zI zI)) c2), some (zI p4.1), some (eBar p4.2), s3 4]) (r_enum (r_V (r_args (r_sl rfl) (r_args (r_c) (r_args_nil) rfl) rfl) (p_ixc (e := (zT eBar)) (x := machine0.2.2) rfl)) (p_enum (E := (zT eBar)) (xs := machine0.2.2))) rfl (fun _ _ _ => rfl) (fun c2 s3 p4 =>
  sx_hoist fun ks5 h_ks5 => ss_fold (s0 := fun _ => none) (e := zI) (fun (c6 : (List (Int × Int × Int))) (s7 : Nat → Option D) => [some (eMach machine0), some ((zL (z3 zI zI zI)) c6), some (zI p4.1), some (eBar p4.2), s7 4]) (fun (c6 : (List (Int × Int × Int))) (s7 : Nat → Option D) index8 => [some (eMach machine0), some ((zL (z3 zI zI zI)) c6), some (zI p4.1), some (eBar p4.2), some (zI index8)]) (r_rng (r_args (r_V (r_args (r_V (r_args (r_sl rfl) (r_args (r_c) (r_args_nil) rfl) rfl) (p_ixc (e := (zT eWord)) (x := p4.2.2.2.1) rfl)) (r_args_nil) rfl) (p_len (E := (zT eWord)) (xs := p4.2.2.2.1))) (r_args_nil) rfl) (p_rng1 h_ks5)) rfl (fun _ _ _ => rfl) (fun c6 s7 index8 =>
  ss_app (e := (z3 zI zI zI)) (E := fun names9 => [some (eMach machine0), some ((zL (z3 zI zI zI)) names9), some (zI p4.1), some (eBar p4.2), some (zI index8)]) rfl (r_V (r_args (r_imm (d := zI (p4.1)) (r_sl rfl) (Im.im (e := zI) (p4.1))) (r_args (r_c) (r_args (r_imm (d := zI (index8)) (r_sl rfl) (Im.im (e := zI) (index8))) (r_args_nil) rfl) rfl) rfl) (v_tup (Nat.le_of_ble_eq_true rfl))) rfl (fun _ => rfl) fun names9 =>
  ss_nx ⟨.inl rfl, rfl⟩) fun c6 s7 =>
  sx_hoist fun ks10 h_ks10 => ss_fold (s0 := fun _ => none) (e := zI) (fun (c11 : (List (Int × Int × Int))) (s12 : Nat → Option D) => [some (eMach machine0), some ((zL (z3 zI zI zI)) c11), some (zI p4.1), some (eBar p4.2), s12 4]) (fun (c11 : (List (Int × Int × Int))) (s12 : Nat → Option D) index13 => [some (eMach machine0), some ((zL (z3 zI zI zI)) c11), some (zI p4.1), some (eBar p4.2), some (zI index13)]) (r_rng (r_args (r_V (r_args (r_V (r_args (r_sl rfl) (r_args (r_c) (r_args_nil) rfl) rfl) (p_ixc (e := (zT eWord)) (x := p4.2.2.2.2) rfl)) (r_args_nil) rfl) (p_len (E := (zT eWord)) (xs := p4.2.2.2.2))) (r_args_nil) rfl) (p_rng1 h_ks10)) rfl (fun _ _ _ => rfl) (fun c11 s12 index13 =>
  ss_app (e := (z3 zI zI zI)) (E := fun names14 => [some (eMach machine0), some ((zL (z3 zI zI zI)) names14), some (zI p4.1), some (eBar p4.2), some (zI index13)]) rfl (r_V (r_args (r_imm (d := zI (p4.1)) (r_sl rfl) (Im.im (e := zI) (p4.1))) (r_args (r_c) (r_args (r_imm (d := zI (index13)) (r_sl rfl) (Im.im (e := zI) (index13))) (r_args_nil) rfl) rfl) rfl) (v_tup (Nat.le_of_ble_eq_true rfl))) rfl (fun _ => rfl) fun names14 =>
  ss_nx ⟨.inl rfl, rfl⟩) fun c11 s12 =>
  ss_nx ⟨.inl rfl, rfl⟩) fun c2 s3 =>
  ss_ret (r_V (r_args (r_sl rfl) (r_args_nil) rfl) (p_tuple (E := (zL (z3 zI zI zI))) (xs := c2))) (⟨rfl, rfl⟩)
theorem s_word_names {machine0 : Mach} {r : (List (Int × Int × Int))} (h : t_word_names machine0 = some r) : F_word_names [some (eMach machine0)] = some (.ok ((fun (b : (List (Int × Int × Int))) => (zT (z3 zI zI zI)) (b)) r) ((fun (b : (List (Int × Int × Int))) => [some (eMach machine0)]) r)) := by
  unfold F_word_names
  exact fn_sim (V := fun (b : (List (Int × Int × Int))) => (zT (z3 zI zI zI)) (b)) (R := fun (b : (List (Int × Int × Int))) => [some (eMach machine0)]) (by first | rfl | simp [immA, immAt, Im.im]) (m_word_names machine0) h
def t_left_words (words0 : (List Word)) (number0 : Int) (part0 : Int) (names0 : (List (Int × Int × Int))) : Option ((List Word)) :=
  bnd ([] : List Word) fun left1 =>
  (foldT (fun (c2 : (List Word)) p4 =>
  (if (!decide ((number0, part0, p4.1) ∈ names0)) = true then
  (appO c2 p4.2).bind fun left5 =>
  some left5
  else
  some c2 : Option ((List Word))).bind fun c6 =>
  some c6) (enumT words0) left1).bind fun c2 =>
  some c2
theorem m_left_words (words0 : (List Word)) (number0 : Int) (part0 : Int) (names0 : (List (Int × Int × Int))) : SimX g_left_words ([some ((zT eWord) words0), some (zI number0), some (zI part0), some ((zT (z3 zI zI zI)) names0), none, none, none] : DEnv) (t_left_words words0 number0 part0 names0) (FnK [4, 5, 6] [some ((zT eWord) words0), some (zI number0), some (zI part0), some ((zT (z3 zI zI zI)) names0)] (fun (b : (List Word)) => (zT eWord) (b)) (fun (b : (List Word)) => [some ((zT eWord) words0), some (zI number0), some (zI part0), some ((zT (z3 zI zI zI)) names0)])) := by
  unfold g_left_words t_left_words
  exact ss_asg (e := (zL eWord)) (E := fun left1 => [some ((zT eWord) words0), some (zI number0), some (zI part0), some ((zT (z3 zI zI zI)) names0), some ((zL eWord) left1), none, none]) (r_V (r_args_nil) (v_lst (Nat.le_of_ble_eq_true rfl))) rfl (fun _ => rfl) fun left1 =>
  ss_fold (s0 := fun _ => none) (e := (z2 zI eWord)) (fun (c2 : (List Word)) (s3 : Nat → Option D) => [some ((zT eWord) words0), some (zI number0), some (zI part0), some ((zT (z3 zI zI zI)) names0), some ((zL eWord) c2), s3 5, s3 6]) (fun (c2 : (List Word)) (s3 : Nat → Option D) p4 => [some ((zT eWord) words0), some (zI number0), some (zI part0), some ((zT (z3 zI zI zI)) names0), some ((zL eWord) c2), some (zI p4.1), some (eWord p4.2)]) (r_enum (r_sl rfl) (p_enum (E := (zT eWord)) (xs := words0))) rfl (fun _ _ _ => rfl) (fun c2 s3 p4 =>
  ss_join (fun (c6 : (List Word)) (s7 : Nat → Option D) => [some ((zT eWord) words0), some (zI number0), some (zI part0), some ((zT (z3 zI zI zI)) names0), some ((zL eWord) c6), some (zI p4.1), some (eWord p4.2)]) (r_bl (r_V (r_args (r_V (r_args (r_imm (d := zI (number0)) (r_sl rfl) (Im.im (e := zI) (number0))) (r_args (r_imm (d := zI (part0)) (r_sl rfl) (Im.im (e := zI) (part0))) (r_args (r_imm (d := zI (p4.1)) (r_sl rfl) (Im.im (e := zI) (p4.1))) (r_args_nil) rfl) rfl) rfl) (v_tup (Nat.le_of_ble_eq_true rfl))) (r_args (r_sl rfl) (r_args_nil) rfl) rfl) (p_nin (E := (zT (z3 zI zI zI))) (e := (z3 zI zI zI)) (a := (number0, part0, p4.1)) (xs := names0)))) (fun _ => ss_app (e := eWord) (E := fun left5 => [some ((zT eWord) words0), some (zI number0), some (zI part0), some ((zT (z3 zI zI zI)) names0), some ((zL eWord) left5), some (zI p4.1), some (eWord p4.2)]) rfl (r_imm (d := eWord (p4.2)) (r_sl rfl) (Im.im (e := eWord) (p4.2))) rfl (fun _ => rfl) fun left5 =>
  ss_nx ⟨rfl, rfl⟩) (fun _ => ss_nx ⟨rfl, rfl⟩) fun c6 s7 =>
  ss_nx ⟨.inl rfl, rfl⟩) fun c2 s3 =>
  ss_ret (r_V (r_args (r_sl rfl) (r_args_nil) rfl) (p_tuple (E := (zL eWord)) (xs := c2))) (⟨rfl, rfl⟩)
theorem s_left_words {words0 : (List Word)} {number0 : Int} {part0 : Int} {names0 : (List (Int × Int × Int))} {r : (List Word)} (h : t_left_words words0 number0 part0 names0 = some r) : F_left_words [some ((zT eWord) words0), some (zI number0), some (zI part0), some ((zT (z3 zI zI zI)) names0)] = some (.ok ((fun (b : (List Word)) => (zT eWord) (b)) r) ((fun (b : (List Word)) => [some ((zT eWord) words0), some (zI number0), some (zI part0), some ((zT (z3 zI zI zI)) names0)]) r)) := by
  unfold F_left_words
  exact fn_sim (V := fun (b : (List Word)) => (zT eWord) (b)) (R := fun (b : (List Word)) => [some ((zT eWord) words0), some (zI number0), some (zI part0), some ((zT (z3 zI zI zI)) names0)]) (by first | rfl | simp [immA, immAt, Im.im]) (m_left_words words0 number0 part0 names0) h
def c_loop : TX := ⟨"loop", by decide +kernel⟩
def c_shut : TX := ⟨"shut", by decide +kernel⟩
def t_drop_words (machine0 : Mach) (names0 : (List (Int × Int × Int))) : Option (Mach) :=
  bnd ([] : List Bar) fun bars1 =>
  (foldT (fun (c2 : (List Bar)) p4 =>
  (t_left_words p4.2.2.2.1 p4.1 (0 : Int) names0).bind fun r5 => bnd r5 fun chain6 =>
  (t_left_words p4.2.2.2.2 p4.1 (1 : Int) names0).bind fun r7 => bnd r7 fun closing8 =>
  if ((decide (p4.2.2.1 = c_loop)) && (decide (((chain6).length : Int) = (0 : Int)))) = true then
  some c2
  else
  if ((decide (p4.2.2.1 = c_shut)) && (decide (((closing8).length : Int) = (0 : Int)))) = true then
  some c2
  else
  (appO c2 (p4.2.1, p4.2.2.1, chain6, closing8)).bind fun bars9 =>
  some bars9) (enumT machine0.2.2) bars1).bind fun c2 =>
  some (machine0.1, machine0.2.1, c2)
theorem m_drop_words (machine0 : Mach) (names0 : (List (Int × Int × Int))) : SimX g_drop_words ([some (eMach machine0), some ((zT (z3 zI zI zI)) names0), none, none, none, none, none] : DEnv) (t_drop_words machine0 names0) (FnK [2, 3, 4, 5, 6] [some (eMach machine0), some ((zT (z3 zI zI zI)) names0)] (fun (b : Mach) => eMach (b)) (fun (b : Mach) => [some (eMach machine0), some ((zT (z3 zI zI zI)) names0)])) := by
  unfold g_drop_words t_drop_words
  exact ss_asg (e := (zL eBar)) (E := fun bars1 => [some (eMach machine0), some ((zT (z3 zI zI zI)) names0), some ((zL eBar) bars1), none, none, none, none]) (r_V (r_args_nil) (v_lst (Nat.le_of_ble_eq_true rfl))) rfl (fun _ => rfl) fun bars1 =>
  ss_fold (s0 := fun _ => none) (e := (z2 zI eBar)) (fun (c2 : (List Bar)) (s3 : Nat → Option D) => [some (eMach machine0), some ((zT (z3 zI zI zI)) names0), some ((zL eBar) c2), s3 3, s3 4, s3 5, s3 6]) (fun (c2 : (List Bar)) (s3 : Nat → Option D) p4 => [some (eMach machine0), some ((zT (z3 zI zI zI)) names0), some ((zL eBar) c2), some (zI p4.1), some (eBar p4.2), s3 5, s3 6]) (r_enum (r_V (r_args (r_sl rfl) (r_args (r_c) (r_args_nil) rfl) rfl) (p_ixc (e := (zT eBar)) (x := machine0.2.2) rfl)) (p_enum (E := (zT eBar)) (xs := machine0.2.2))) rfl (fun _ _ _ => rfl) (fun c2 s3 p4 =>
  sx_hoist fun r5 h_r5 => ss_asg (e := (zT eWord)) (E := fun chain6 => [some (eMach machine0), some ((zT (z3 zI zI zI)) names0), some ((zL eBar) c2), some (zI p4.1), some (eBar p4.2), some ((zT eWord) chain6), s3 6]) (r_call (r_args (r_V (r_args (r_sl rfl) (r_args (r_c) (r_args_nil) rfl) rfl) (p_ixc (e := (zT eWord)) (x := p4.2.2.2.1) rfl)) (r_args (r_imm (d := zI (p4.1)) (r_sl rfl) (Im.im (e := zI) (p4.1))) (r_args (r_c) (r_args (r_sl rfl) (r_args_nil) rfl) rfl) rfl) rfl) (s_left_words  h_r5)) rfl (fun _ => rfl) fun chain6 =>
  sx_hoist fun r7 h_r7 => ss_asg (e := (zT eWord)) (E := fun closing8 => [some (eMach machine0), some ((zT (z3 zI zI zI)) names0), some ((zL eBar) c2), some (zI p4.1), some (eBar p4.2), some ((zT eWord) chain6), some ((zT eWord) closing8)]) (r_call (r_args (r_V (r_args (r_sl rfl) (r_args (r_c) (r_args_nil) rfl) rfl) (p_ixc (e := (zT eWord)) (x := p4.2.2.2.2) rfl)) (r_args (r_imm (d := zI (p4.1)) (r_sl rfl) (Im.im (e := zI) (p4.1))) (r_args (r_c) (r_args (r_sl rfl) (r_args_nil) rfl) rfl) rfl) rfl) (s_left_words  h_r7)) rfl (fun _ => rfl) fun closing8 =>
  ss_if (x_and (r_bl (r_V (r_args (r_V (r_args (r_sl rfl) (r_args (r_c) (r_args_nil) rfl) rfl) (p_ixc (e := zS) (x := p4.2.2.1) rfl)) (r_args (r_c) (r_args_nil) rfl) rfl) (p_eq (e := zS) (a := p4.2.2.1) (b := c_loop)))) (r_bl (r_V (r_args (r_V (r_args (r_sl rfl) (r_args_nil) rfl) (p_len (E := (zT eWord)) (xs := chain6))) (r_args (r_c) (r_args_nil) rfl) rfl) (p_eq (e := zI) (a := ((chain6).length : Int)) (b := (0 : Int)))))) (fun _ => ss_assoc (ss_ct ⟨.inr rfl, rfl⟩)) (fun _ => ss_pass (ss_if (x_and (r_bl (r_V (r_args (r_V (r_args (r_sl rfl) (r_args (r_c) (r_args_nil) rfl) rfl) (p_ixc (e := zS) (x := p4.2.2.1) rfl)) (r_args (r_c) (r_args_nil) rfl) rfl) (p_eq (e := zS) (a := p4.2.2.1) (b := c_shut)))) (r_bl (r_V (r_args (r_V (r_args (r_sl rfl) (r_args_nil) rfl) (p_len (E := (zT eWord)) (xs := closing8))) (r_args (r_c) (r_args_nil) rfl) rfl) (p_eq (e := zI) (a := ((closing8).length : Int)) (b := (0 : Int)))))) (fun _ => ss_assoc (ss_ct ⟨.inr rfl, rfl⟩)) (fun _ => ss_pass (ss_app (e := eBar) (E := fun bars9 => [some (eMach machine0), some ((zT (z3 zI zI zI)) names0), some ((zL eBar) bars9), some (zI p4.1), some (eBar p4.2), some ((zT eWord) chain6), some ((zT eWord) closing8)]) rfl (r_V (r_args (r_V (r_args (r_sl rfl) (r_args (r_c) (r_args_nil) rfl) rfl) (p_ixc (e := zS) (x := p4.2.1) rfl)) (r_args (r_V (r_args (r_sl rfl) (r_args (r_c) (r_args_nil) rfl) rfl) (p_ixc (e := zS) (x := p4.2.2.1) rfl)) (r_args (r_imm (d := (zT eWord) (chain6)) (r_sl rfl) (Im.im (e := (zT eWord)) (chain6))) (r_args (r_imm (d := (zT eWord) (closing8)) (r_sl rfl) (Im.im (e := (zT eWord)) (closing8))) (r_args_nil) rfl) rfl) rfl) rfl) (v_tup (Nat.le_of_ble_eq_true rfl))) rfl (fun _ => rfl) fun bars9 =>
  ss_nx ⟨.inl rfl, rfl⟩))))) fun c2 s3 =>
  ss_ret (r_V (r_args (r_V (r_args (r_sl rfl) (r_args (r_c) (r_args_nil) rfl) rfl) (p_ixc (e := zS) (x := machine0.1) rfl)) (r_args (r_V (r_args (r_sl rfl) (r_args (r_c) (r_args_nil) rfl) rfl) (p_ixc (e := eLetters) (x := machine0.2.1) rfl)) (r_args (r_V (r_args (r_sl rfl) (r_args_nil) rfl) (p_tuple (E := (zL eBar)) (xs := c2))) (r_args_nil) rfl) rfl) rfl) (v_tup (Nat.le_of_ble_eq_true rfl))) (⟨rfl, rfl⟩)
theorem s_drop_words {machine0 : Mach} {names0 : (List (Int × Int × Int))} {r : Mach} (h : t_drop_words machine0 names0 = some r) : F_drop_words [some (eMach machine0), some ((zT (z3 zI zI zI)) names0)] = some (.ok ((fun (b : Mach) => eMach (b)) r) ((fun (b : Mach) => [some (eMach machine0), some ((zT (z3 zI zI zI)) names0)]) r)) := by
  unfold F_drop_words
  exact fn_sim (V := fun (b : Mach) => eMach (b)) (R := fun (b : Mach) => [some (eMach machine0), some ((zT (z3 zI zI zI)) names0)]) (by first | rfl | simp [immA, immAt, Im.im]) (m_drop_words machine0 names0) h
def t__law_rare (d0 : DSt) (many0 : Int) : Option (Bool × DSt) :=
  (t__law_draw d0 many0).bind fun r1 => (divO many0 (2 : Int)).bind fun r2 => some ((decide (r1.1 = r2)), r1.2)
theorem m__law_rare (d0 : DSt) (many0 : Int) : SimX g__law_rare ([some (dst d0), some (zI many0)] : DEnv) (t__law_rare d0 many0) (FnK [] [some (dst d0), some (zI many0)] (fun (b : Bool × DSt) => zB (b.1)) (fun (b : Bool × DSt) => [some (dst (b.2)), some (zI many0)])) := by
  unfold g__law_rare t__law_rare
  exact sx_hoist fun r1 h_r1 => sx_hoist fun r2 h_r2 => ss_ret (r_V (r_args (r_call (r_args (r_sl rfl) (r_args (r_sl rfl) (r_args_nil) rfl) rfl) (s__law_draw  h_r1)) (r_args (r_V (r_args (r_sl rfl) (r_args (r_c) (r_args_nil) rfl) rfl) (p_div h_r2)) (r_args_nil) rfl) rfl) (p_eq (e := zI) (a := r1.1) (b := r2))) (⟨rfl, rfl⟩)
theorem s__law_rare {d0 : DSt} {many0 : Int} {r : Bool × DSt} (h : t__law_rare d0 many0 = some r) : F__law_rare [some (dst d0), some (zI many0)] = some (.ok ((fun (b : Bool × DSt) => zB (b.1)) r) ((fun (b : Bool × DSt) => [some (dst (b.2)), some (zI many0)]) r)) := by
  unfold F__law_rare
  exact fn_sim (V := fun (b : Bool × DSt) => zB (b.1)) (R := fun (b : Bool × DSt) => [some (dst (b.2)), some (zI many0)]) (by first | rfl | simp [immA, immAt, Im.im]) (m__law_rare d0 many0) h
def t__law_some {A : Type} (d0 : DSt) (row0 : (List A)) : Option ((List A) × DSt) :=
  (compO (fun (c : DSt) thing1 => (t__law_draw c (2 : Int)).bind fun r3 => if (decide (r3.1 = (1 : Int))) = true then some (r3.2, some thing1) else some (r3.2, none)) row0 d0).bind fun m4 => bnd m4.2 fun found5 =>
  (if (decide (((found5).length : Int) = (0 : Int))) = true then
  (t__law_draw m4.1 ((row0).length : Int)).bind fun r6 => (atI row0 r6.1).bind fun r7 => bnd [r7] fun found8 =>
  some (r6.2, found8)
  else
  some (m4.1, found5) : Option (DSt × (List A))).bind fun c9 =>
  some (c9.2, c9.1)
theorem m__law_some {A : Type} {eA : A → D} [Im eA] {E : List A → D} [Sq E eA] (d0 : DSt) (row0 : (List A)) : SimX g__law_some ([some (dst d0), some (E row0), none, none] : DEnv) (t__law_some d0 row0) (FnK [2] [some (dst d0), some (E row0)] (fun (b : (List A) × DSt) => (zL eA) (b.1)) (fun (b : (List A) × DSt) => [some (dst (b.2)), some (E row0)])) := by
  unfold g__law_some t__law_some
  exact sx_hoist fun m4 h_m4 => ss_asg (e := (zL eA)) (E := fun found5 => [some (dst m4.1), some (E row0), some ((zL eA) found5), none]) (x_compO (e := eA) (e' := eA) (fun (c : DSt) => [some (dst c), some (E row0), none, none]) (fun (c : DSt) thing1 => [some (dst c), some (E row0), none, some (eA thing1)]) h_m4 (r_items (r_sl rfl) (p_items (E := E) (xs := row0))) rfl rfl rfl (fun _ _ => rfl) (fun c thing1 => sx_hoist fun r3 h_r3 => sx_el (r_bl (r_V (r_args (r_call (r_args (r_sl rfl) (r_args (r_c) (r_args_nil) rfl) rfl) (s__law_draw  h_r3)) (r_args (r_c) (r_args_nil) rfl) rfl) (p_eq (e := zI) (a := r3.1) (b := (1 : Int))))) (fun _ => sx_done (r_imm (d := eA (thing1)) (r_sl rfl) (Im.im (e := eA) (thing1))) ⟨rfl, rfl, rfl⟩) ⟨rfl, rfl, rfl⟩)) rfl (fun _ => rfl) fun found5 =>
  ss_join (fun (c9 : DSt × (List A)) (s10 : Nat → Option D) => [some (dst c9.1), some (E row0), some ((zL eA) c9.2), none]) (r_bl (r_V (r_args (r_V (r_args (r_sl rfl) (r_args_nil) rfl) (p_len (E := (zL eA)) (xs := found5))) (r_args (r_c) (r_args_nil) rfl) rfl) (p_eq (e := zI) (a := ((found5).length : Int)) (b := (0 : Int))))) (fun _ => sx_hoist fun r6 h_r6 => sx_hoist fun r7 h_r7 => ss_asg (e := (zL eA)) (E := fun found8 => [some (dst r6.2), some (E row0), some ((zL eA) found8), none]) (r_V (r_args (r_V (r_args (r_sl rfl) (r_args (r_call (r_args (r_sl rfl) (r_args (r_V (r_args (r_sl rfl) (r_args_nil) rfl) (p_len (E := E) (xs := row0))) (r_args_nil) rfl) rfl) (s__law_draw  h_r6)) (r_args_nil) rfl) rfl) (p_ix (E := E) (e := eA) h_r7)) (r_args_nil) rfl) (v_lst (Nat.le_of_ble_eq_true rfl))) rfl (fun _ => rfl) fun found8 =>
  ss_nx ⟨rfl, rfl⟩) (fun _ => ss_nx ⟨rfl, rfl⟩) fun c9 s10 =>
  ss_ret (r_mv rfl) (⟨rfl, rfl⟩)
theorem s__law_some {A : Type} {eA : A → D} [Im eA] {E : List A → D} [Sq E eA] {d0 : DSt} {row0 : (List A)} {r : (List A) × DSt} (h : t__law_some d0 row0 = some r) : F__law_some [some (dst d0), some (E row0)] = some (.ok ((fun (b : (List A) × DSt) => (zL eA) (b.1)) r) ((fun (b : (List A) × DSt) => [some (dst (b.2)), some (E row0)]) r)) := by
  unfold F__law_some
  exact fn_sim (V := fun (b : (List A) × DSt) => (zL eA) (b.1)) (R := fun (b : (List A) × DSt) => [some (dst (b.2)), some (E row0)]) (by first | rfl | simp [immA, immAt, Im.im]) (m__law_some d0 row0) h
def c_xc2eeaeb5 : TX := ⟨"ld st mb a b2 x y z rel acq sw fx q7 load8 store9 w r0 left turn k0 deep m8 gate aa p t4 even2 ab1 head u v2 ", by decide +kernel⟩
def c_x889feb35 : TX := ⟨"low high mid s t e f g h i j k fence1 bar2 one two zz1 near far9 last ring2 aaaaaaa8 b c1 top2 o n c0 l5", by decide +kernel⟩
def t__law_pool : Option ((List TX)) :=
  bnd c_xc2eeaeb5 fun text1 =>
  (addS text1 c_x889feb35).bind fun r2 => bnd r2 fun text3 =>
  (splitO " " text3).bind fun w4 => some w4
theorem m__law_pool : SimX g__law_pool ([none] : DEnv) (t__law_pool ) (FnK [0] [] (fun (b : (List TX)) => (zL zS) (b)) (fun (b : (List TX)) => [])) := by
  unfold g__law_pool t__law_pool
  exact ss_asg (e := zS) (E := fun text1 => [some (zS text1)]) (r_c) rfl (fun _ => rfl) fun text1 =>
  sx_hoist fun r2 h_r2 => ss_asg (e := zS) (E := fun text3 => [some (zS text3)]) (r_V (r_args (r_sl rfl) (r_args (r_c) (r_args_nil) rfl) rfl) (p_addS h_r2)) rfl (fun _ => rfl) fun text3 =>
  sx_hoist fun w4 h_w4 => ss_ret (r_V (r_args (r_sl rfl) (r_args_nil) rfl) (p_split h_w4)) (⟨rfl, rfl⟩)
theorem s__law_pool {r : (List TX)} (h : t__law_pool  = some r) : F__law_pool [] = some (.ok ((fun (b : (List TX)) => (zL zS) (b)) r) ((fun (b : (List TX)) => []) r)) := by
  unfold F__law_pool
  exact fn_sim (V := fun (b : (List TX)) => (zL zS) (b)) (R := fun (b : (List TX)) => []) (by first | rfl | simp [immA, immAt, Im.im]) (m__law_pool ) h
def t__law_is_int (thing0 : Int) : Option (Bool) :=
  some (true && (!false))
theorem m__law_is_int (thing0 : Int) : SimX g__law_is_int ([some (zI thing0)] : DEnv) (t__law_is_int thing0) (FnK [] [some (zI thing0)] (fun (b : Bool) => zB (b)) (fun (b : Bool) => [some (zI thing0)])) := by
  unfold g__law_is_int t__law_is_int
  exact ss_ret (x_andV (r_V (r_args (r_sl rfl) (r_args_nil) rfl) rfl) (r_ofB (r_not (r_bl (r_V (r_args (r_sl rfl) (r_args_nil) rfl) rfl))))) (⟨rfl, rfl⟩)
theorem s__law_is_int {thing0 : Int} {r : Bool} (h : t__law_is_int thing0 = some r) : F__law_is_int [some (zI thing0)] = some (.ok ((fun (b : Bool) => zB (b)) r) ((fun (b : Bool) => [some (zI thing0)]) r)) := by
  unfold F__law_is_int
  exact fn_sim (V := fun (b : Bool) => zB (b)) (R := fun (b : Bool) => [some (zI thing0)]) (by first | rfl | simp [immA, immAt, Im.im]) (m__law_is_int thing0) h
def c_fence : TX := ⟨"fence", by decide +kernel⟩
def c_read : TX := ⟨"read", by decide +kernel⟩
def c_swap : TX := ⟨"swap", by decide +kernel⟩
def c_write : TX := ⟨"write", by decide +kernel⟩
def t__law_letters (d0 : DSt) (most0 : Int) : Option (Letters × DSt) :=
  (t__law_pool ).bind fun r1 => bnd r1 fun names2 =>
  bnd [c_read, c_write] fun roles3 =>
  (t__law_draw d0 (max2 (1 : Int) (most0 - (1 : Int)))).bind fun r4 => (rng1 r4.1).bind fun ks5 => (foldT (fun (c6 : DSt × (List TX)) k8 =>
  (t__law_pick c6.1 [c_read, c_write, c_fence, c_fence, c_swap]).bind fun r9 => (appO c6.2 r9.1).bind fun roles10 =>
  some (r9.2, roles10)) ks5 (r4.2, roles3)).bind fun c6 =>
  (t__law_shuffled c6.1 c6.2).bind fun r11 => (compO (fun (c : DSt × (List TX)) role12 => (t__law_pop c.1 c.2).bind fun r14 => some ((r14.2.1, r14.2.2), some (r14.1, role12))) r11.1 (r11.2, names2)).bind fun m15 => some (m15.2, m15.1.1)
theorem m__law_letters (d0 : DSt) (most0 : Int) : SimX g__law_letters ([some (dst d0), some (zI most0), none, none, none, none] : DEnv) (t__law_letters d0 most0) (FnK [2, 3, 4] [some (dst d0), some (zI most0)] (fun (b : Letters × DSt) => eLetters (b.1)) (fun (b : Letters × DSt) => [some (dst (b.2)), some (zI most0)])) := by
  unfold g__law_letters t__law_letters
  exact sx_hoist fun r1 h_r1 => ss_asg (e := (zL zS)) (E := fun names2 => [some (dst d0), some (zI most0), some ((zL zS) names2), none, none, none]) (r_call (r_args_nil) (s__law_pool  h_r1)) rfl (fun _ => rfl) fun names2 =>
  ss_asg (e := (zL zS)) (E := fun roles3 => [some (dst d0), some (zI most0), some ((zL zS) names2), some ((zL zS) roles3), none, none]) (r_V (r_args (r_c) (r_args (r_c) (r_args_nil) rfl) rfl) (v_lst (Nat.le_of_ble_eq_true rfl))) rfl (fun _ => rfl) fun roles3 =>
  sx_hoist fun r4 h_r4 => sx_hoist fun ks5 h_ks5 => ss_fold (s0 := fun _ => none) (e := zI) (fun (c6 : DSt × (List TX)) (s7 : Nat → Option D) => [some (dst c6.1), some (zI most0), some ((zL zS) names2), some ((zL zS) c6.2), s7 4, none]) (fun (c6 : DSt × (List TX)) (s7 : Nat → Option D) k8 => [some (dst c6.1), some (zI most0), some ((zL zS) names2), some ((zL zS) c6.2), some (zI k8), none]) (r_rng (r_args (r_call (r_args (r_sl rfl) (r_args (r_V (r_args (r_c) (r_args (r_V (r_args (r_sl rfl) (r_args (r_c) (r_args_nil) rfl) rfl) rfl) (r_args_nil) rfl) rfl) rfl) (r_args_nil) rfl) rfl) (s__law_draw  h_r4)) (r_args_nil) rfl) (p_rng1 h_ks5)) rfl (fun _ _ _ => rfl) (fun c6 s7 k8 =>
  sx_hoist fun r9 h_r9 => ss_app (e := zS) (E := fun roles10 => [some (dst r9.2), some (zI most0), some ((zL zS) names2), some ((zL zS) roles10), some (zI k8), none]) rfl (r_call (r_args (r_sl rfl) (r_args (r_V (r_args (r_c) (r_args (r_c) (r_args (r_c) (r_args (r_c) (r_args (r_c) (r_args_nil) rfl) rfl) rfl) rfl) rfl) (v_lst (Nat.le_of_ble_eq_true rfl))) (r_args_nil) rfl) rfl) (s__law_pick (E := (zL zS)) h_r9)) rfl (fun _ => rfl) fun roles10 =>
  ss_nx ⟨.inl rfl, rfl⟩) fun c6 s7 =>
  sx_hoist fun r11 h_r11 => sx_hoist fun m15 h_m15 => ss_ret (r_V (r_args (x_compO (e := zS) (e' := (z2 zS zS)) (fun (c : DSt × (List TX)) => [some (dst c.1), some (zI most0), some ((zL zS) c.2), some ((zL zS) c6.2), s7 4, none]) (fun (c : DSt × (List TX)) role12 => [some (dst c.1), some (zI most0), some ((zL zS) c.2), some ((zL zS) c6.2), s7 4, some (zS role12)]) h_m15 (r_items (r_call (r_args (r_sl rfl) (r_args (r_sl rfl) (r_args_nil) rfl) rfl) (s__law_shuffled (E := (zL zS)) h_r11)) (p_items (E := (zL zS)) (xs := r11.1))) rfl rfl rfl (fun _ _ => rfl) (fun c role12 => sx_el0 (sx_hoist fun r14 h_r14 => sx_done (r_V (r_args (r_call (r_args (r_sl rfl) (r_args (r_sl rfl) (r_args_nil) rfl) rfl) (s__law_pop  (eA := zS) h_r14)) (r_args (r_imm (d := zS (role12)) (r_sl rfl) (Im.im (e := zS) (role12))) (r_args_nil) rfl) rfl) (v_tup (Nat.le_of_ble_eq_true rfl))) ⟨rfl, rfl, rfl⟩))) (r_args_nil) rfl) (p_tuple (E := (zL (z2 zS zS))) (xs := m15.2))) (⟨rfl, rfl⟩)
theorem s__law_letters {d0 : DSt} {most0 : Int} {r : Letters × DSt} (h : t__law_letters d0 most0 = some r) : F__law_letters [some (dst d0), some (zI most0)] = some (.ok ((fun (b : Letters × DSt) => eLetters (b.1)) r) ((fun (b : Letters × DSt) => [some (dst (b.2)), some (zI most0)]) r)) := by
  unfold F__law_letters
  exact fn_sim (V := fun (b : Letters × DSt) => eLetters (b.1)) (R := fun (b : Letters × DSt) => [some (dst (b.2)), some (zI most0)]) (by first | rfl | simp [immA, immAt, Im.im]) (m__law_letters d0 most0) h
def c_addr : TX := ⟨"addr", by decide +kernel⟩
def c_ctrl : TX := ⟨"ctrl", by decide +kernel⟩
def c_data : TX := ⟨"data", by decide +kernel⟩
def c_over : TX := ⟨"over", by decide +kernel⟩
def c_own : TX := ⟨"own", by decide +kernel⟩
def c_past : TX := ⟨"past", by decide +kernel⟩
def c_seen : TX := ⟨"seen", by decide +kernel⟩
def c_then : TX := ⟨"then", by decide +kernel⟩
def t__law_labels : Option ((List TX)) :=
  some [c_then, c_seen, c_over, c_past, c_own, c_addr, c_data, c_ctrl]
theorem m__law_labels : SimX g__law_labels ([] : DEnv) (t__law_labels ) (FnK [] [] (fun (b : (List TX)) => (zL zS) (b)) (fun (b : (List TX)) => [])) := by
  unfold g__law_labels t__law_labels
  exact ss_ret (r_V (r_args (r_c) (r_args (r_c) (r_args (r_c) (r_args (r_c) (r_args (r_c) (r_args (r_c) (r_args (r_c) (r_args (r_c) (r_args_nil) rfl) rfl) rfl) rfl) rfl) rfl) rfl) rfl) (v_lst (Nat.le_of_ble_eq_true rfl))) (⟨rfl, rfl⟩)
theorem s__law_labels {r : (List TX)} (h : t__law_labels  = some r) : F__law_labels [] = some (.ok ((fun (b : (List TX)) => (zL zS) (b)) r) ((fun (b : (List TX)) => []) r)) := by
  unfold F__law_labels
  exact fn_sim (V := fun (b : (List TX)) => (zL zS) (b)) (R := fun (b : (List TX)) => []) (by first | rfl | simp [immA, immAt, Im.im]) (m__law_labels ) h
def t__law_sieve (d0 : DSt) (letters0 : Letters) : Option ((List TX) × DSt) :=
  (t__law_draw d0 (3 : Int)).bind fun r1 => if (decide ((0 : Int) < r1.1)) = true then
  (mapU (fun p2 => p2.1) letters0).bind fun m3 => some (m3, r1.2)
  else
  (mapU (fun p4 => p4.1) letters0).bind fun m5 => (t__law_some r1.2 m5).bind fun r6 => bnd r6.1 fun kept7 =>
  (mapO (fun p8 => (decide (p8.1 ∈ kept7))) (fun p8 => p8.1) letters0).bind fun m9 => some (m9, r6.2)
theorem m__law_sieve (d0 : DSt) (letters0 : Letters) : SimX g__law_sieve ([some (dst d0), some (eLetters letters0), none, none, none] : DEnv) (t__law_sieve d0 letters0) (FnK [2] [some (dst d0), some (eLetters letters0)] (fun (b : (List TX) × DSt) => (zT zS) (b.1)) (fun (b : (List TX) × DSt) => [some (dst (b.2)), some (eLetters letters0)])) := by
  unfold g__law_sieve t__law_sieve
  exact sx_hoist fun r1 h_r1 => ss_if (r_bl (r_V (r_args (r_call (r_args (r_sl rfl) (r_args (r_c) (r_args_nil) rfl) rfl) (s__law_draw  h_r1)) (r_args (r_c) (r_args_nil) rfl) rfl) rfl)) (fun _ => sx_hoist fun m3 h_m3 => ss_assoc (ss_ret (r_V (r_args (x_compU (e := (z2 zS zS)) (e' := zS) (E1 := fun p2 => [some (dst r1.2), some (eLetters letters0), none, some (zS p2.1), some (zS p2.2)]) h_m3 (r_items (r_sl rfl) (p_items (E := eLetters) (xs := letters0))) rfl rfl (fun _ => rfl) (fun _ => rfl) (fun _ => rfl) (fun p2 => r_imm (d := zS (p2.1)) (r_sl rfl) (Im.im (e := zS) (p2.1)))) (r_args_nil) rfl) (p_tuple (E := (zL zS)) (xs := m3))) (⟨rfl, rfl⟩))) (fun _ => ss_pass (sx_hoist fun m5 h_m5 => sx_hoist fun r6 h_r6 => ss_asg (e := (zL zS)) (E := fun kept7 => [some (dst r6.2), some (eLetters letters0), some ((zL zS) kept7), none, none]) (r_call (r_args (r_sl rfl) (r_args (x_compU (e := (z2 zS zS)) (e' := zS) (E1 := fun p4 => [some (dst r1.2), some (eLetters letters0), none, some (zS p4.1), some (zS p4.2)]) h_m5 (r_items (r_sl rfl) (p_items (E := eLetters) (xs := letters0))) rfl rfl (fun _ => rfl) (fun _ => rfl) (fun _ => rfl) (fun p4 => r_imm (d := zS (p4.1)) (r_sl rfl) (Im.im (e := zS) (p4.1)))) (r_args_nil) rfl) rfl) (s__law_some (E := (zL zS)) h_r6)) rfl (fun _ => rfl) fun kept7 =>
  sx_hoist fun m9 h_m9 => ss_ret (r_V (r_args (x_comp (e := (z2 zS zS)) (e' := zS) (E1 := fun p8 => [some (dst r6.2), some (eLetters letters0), some ((zL zS) kept7), some (zS p8.1), some (zS p8.2)]) h_m9 (r_items (r_sl rfl) (p_items (E := eLetters) (xs := letters0))) rfl rfl (fun _ => rfl) (fun _ => rfl) (fun _ => rfl) (fun p8 => r_bl (r_V (r_args (r_sl rfl) (r_args (r_sl rfl) (r_args_nil) rfl) rfl) (p_in (E := (zL zS)) (e := zS) (a := p8.1) (xs := kept7)))) (fun p8 => r_imm (d := zS (p8.1)) (r_sl rfl) (Im.im (e := zS) (p8.1)))) (r_args_nil) rfl) (p_tuple (E := (zL zS)) (xs := m9))) (⟨rfl, rfl⟩)))
theorem s__law_sieve {d0 : DSt} {letters0 : Letters} {r : (List TX) × DSt} (h : t__law_sieve d0 letters0 = some r) : F__law_sieve [some (dst d0), some (eLetters letters0)] = some (.ok ((fun (b : (List TX) × DSt) => (zT zS) (b.1)) r) ((fun (b : (List TX) × DSt) => [some (dst (b.2)), some (eLetters letters0)]) r)) := by
  unfold F__law_sieve
  exact fn_sim (V := fun (b : (List TX) × DSt) => (zT zS) (b.1)) (R := fun (b : (List TX) × DSt) => [some (dst (b.2)), some (eLetters letters0)]) (by first | rfl | simp [immA, immAt, Im.im]) (m__law_sieve d0 letters0) h
def t__law_filter_for (d0 : DSt) (letters0 : Letters) (label0 : TX) (first0 : Bool) : Option ((List TX) × DSt) :=
  bnd ([(c_seen, [c_write, c_swap]), (c_own, [c_write, c_swap]), (c_over, [c_write, c_swap]), (c_past, [c_read])] : List (TX × (List TX))) fun roles1 =>
  (if (!first0) = true then
  bnd ([(c_seen, [c_read]), (c_own, [c_read]), (c_over, [c_write, c_swap]), (c_past, [c_write, c_swap])] : List (TX × (List TX))) fun roles2 =>
  some roles2
  else
  some roles1 : Option ((List (TX × (List TX))))).bind fun c3 =>
  (if (!(getT c3 label0).isSome) = true then some (true, d0) else (t__law_draw d0 (2 : Int)).bind fun r5 => some ((decide (r5.1 = (0 : Int))), r5.2)).bind fun b6 => if b6.1 = true then
  (t__law_sieve b6.2 letters0).bind fun r7 => some (r7.1, r7.2)
  else
  (compO (fun (c : Unit) p8 => (getT c3 label0).bind fun r10 => if (decide (p8.2 ∈ r10)) = true then some ((), some p8.1) else some ((), none)) letters0 ()).bind fun m11 => bnd m11.2 fun kept12 =>
  if (decide (((kept12).length : Int) = (0 : Int))) = true then
  (t__law_sieve b6.2 letters0).bind fun r13 => some (r13.1, r13.2)
  else
  some (kept12, b6.2)
theorem m__law_filter_for (d0 : DSt) (letters0 : Letters) (label0 : TX) (first0 : Bool) : SimX g__law_filter_for ([some (dst d0), some (eLetters letters0), some (zS label0), some (zB first0), none, none, none, none] : DEnv) (t__law_filter_for d0 letters0 label0 first0) (FnK [4, 5] [some (dst d0), some (eLetters letters0), some (zS label0), some (zB first0)] (fun (b : (List TX) × DSt) => (zT zS) (b.1)) (fun (b : (List TX) × DSt) => [some (dst (b.2)), some (eLetters letters0), some (zS label0), some (zB first0)])) := by
  unfold g__law_filter_for t__law_filter_for
  exact ss_asg (e := (zK zS (zT zS))) (E := fun roles1 => [some (dst d0), some (eLetters letters0), some (zS label0), some (zB first0), some ((zK zS (zT zS)) roles1), none, none, none]) (r_V (r_args (r_c) (r_args (r_V (r_args (r_c) (r_args (r_c) (r_args_nil) rfl) rfl) (v_tup (Nat.le_of_ble_eq_true rfl))) (r_args (r_c) (r_args (r_V (r_args (r_c) (r_args (r_c) (r_args_nil) rfl) rfl) (v_tup (Nat.le_of_ble_eq_true rfl))) (r_args (r_c) (r_args (r_V (r_args (r_c) (r_args (r_c) (r_args_nil) rfl) rfl) (v_tup (Nat.le_of_ble_eq_true rfl))) (r_args (r_c) (r_args (r_V (r_args (r_c) (r_args_nil) rfl) (v_tup (Nat.le_of_ble_eq_true rfl))) (r_args_nil) rfl) rfl) rfl) rfl) rfl) rfl) rfl) rfl) (p_disp (ek := zS) (ev := (zT zS)) (kvs := [(c_seen, [c_write, c_swap]), (c_own, [c_write, c_swap]), (c_over, [c_write, c_swap]), (c_past, [c_read])]) [c_seen, c_own, c_over, c_past] rfl (by decide +kernel) rfl)) rfl (fun _ => rfl) fun roles1 =>
  ss_join (fun (c3 : (List (TX × (List TX)))) (s4 : Nat → Option D) => [some (dst d0), some (eLetters letters0), some (zS label0), some (zB first0), some ((zK zS (zT zS)) c3), none, none, none]) (r_not (r_tr (r_sl rfl) rfl)) (fun _ => ss_asg (e := (zK zS (zT zS))) (E := fun roles2 => [some (dst d0), some (eLetters letters0), some (zS label0), some (zB first0), some ((zK zS (zT zS)) roles2), none, none, none]) (r_V (r_args (r_c) (r_args (r_V (r_args (r_c) (r_args_nil) rfl) (v_tup (Nat.le_of_ble_eq_true rfl))) (r_args (r_c) (r_args (r_V (r_args (r_c) (r_args_nil) rfl) (v_tup (Nat.le_of_ble_eq_true rfl))) (r_args (r_c) (r_args (r_V (r_args (r_c) (r_args (r_c) (r_args_nil) rfl) rfl) (v_tup (Nat.le_of_ble_eq_true rfl))) (r_args (r_c) (r_args (r_V (r_args (r_c) (r_args (r_c) (r_args_nil) rfl) rfl) (v_tup (Nat.le_of_ble_eq_true rfl))) (r_args_nil) rfl) rfl) rfl) rfl) rfl) rfl) rfl) rfl) (p_disp (ek := zS) (ev := (zT zS)) (kvs := [(c_seen, [c_read]), (c_own, [c_read]), (c_over, [c_write, c_swap]), (c_past, [c_write, c_swap])]) [c_seen, c_own, c_over, c_past] rfl (by decide +kernel) rfl)) rfl (fun _ => rfl) fun roles2 =>
  ss_nx ⟨rfl, rfl⟩) (fun _ => ss_nx ⟨rfl, rfl⟩) fun c3 s4 =>
  sx_blk (fe := cOr (cBl (cV (cArgs [(.sl 2, cSl 2), (.sl 4, cSl 4)]) gNinK)) (cBl (cV (cArgs [(.own, cCall [.sl 0, .own] F__law_draw [0] (cArgs [(.sl 0, cSl 0), (.own, cC (.int 2))])), (.own, cC (.int 0))]) gEq))) (δe := [some (dst d0), some (eLetters letters0), some (zS label0), some (zB first0), some ((zK zS (zT zS)) c3), none, none, none]) (V := fun (b : Bool × DSt) => b.1) (E := fun (b : Bool × DSt) => [some (dst b.2), some (eLetters letters0), some (zS label0), some (zB first0), some ((zK zS (zT zS)) c3), none, none, none]) (sx_or (r_bl (r_V (r_args (r_sl rfl) (r_args (r_sl rfl) (r_args_nil) rfl) rfl) (p_ninK (ek := zS) (ev := (zT zS)) (k := label0) (kvs := c3)))) (sx_hoist fun r5 h_r5 => sx_done (r_bl (r_V (r_args (r_call (r_args (r_sl rfl) (r_args (r_c) (r_args_nil) rfl) rfl) (s__law_draw  h_r5)) (r_args (r_c) (r_args_nil) rfl) rfl) (p_eq (e := zI) (a := r5.1) (b := (0 : Int))))) ⟨rfl, rfl⟩) ⟨rfl, rfl⟩) fun b6 h_b6 => ss_if (h_b6) (fun _ => sx_hoist fun r7 h_r7 => ss_assoc (ss_ret (r_call (r_args (r_sl rfl) (r_args (r_sl rfl) (r_args_nil) rfl) rfl) (s__law_sieve  h_r7)) (⟨rfl, rfl⟩))) (fun _ => ss_pass (sx_hoist fun m11 h_m11 => ss_asg (e := (zT zS)) (E := fun kept12 => [some (dst b6.2), some (eLetters letters0), some (zS label0), some (zB first0), some ((zK zS (zT zS)) c3), some ((zT zS) kept12), none, none]) (r_V (r_args (x_compO (e := (z2 zS zS)) (e' := zS) (fun (c : Unit) => [some (dst b6.2), some (eLetters letters0), some (zS label0), some (zB first0), some ((zK zS (zT zS)) c3), none, none, none]) (fun (c : Unit) p8 => [some (dst b6.2), some (eLetters letters0), some (zS label0), some (zB first0), some ((zK zS (zT zS)) c3), none, some (zS p8.1), some (zS p8.2)]) h_m11 (r_items (r_sl rfl) (p_items (E := eLetters) (xs := letters0))) rfl rfl rfl (fun _ _ => rfl) (fun c p8 => sx_hoist fun r10 h_r10 => sx_el (r_bl (r_V (r_args (r_sl rfl) (r_args (r_V (r_args (r_sl rfl) (r_args (r_sl rfl) (r_args_nil) rfl) rfl) (p_dget (ek := zS) (ev := (zT zS)) h_r10)) (r_args_nil) rfl) rfl) (p_in (E := (zT zS)) (e := zS) (a := p8.2) (xs := r10)))) (fun _ => sx_done (r_imm (d := zS (p8.1)) (r_sl rfl) (Im.im (e := zS) (p8.1))) ⟨rfl, rfl, rfl⟩) ⟨rfl, rfl, rfl⟩)) (r_args_nil) rfl) (p_tuple (E := (zL zS)) (xs := m11.2))) rfl (fun _ => rfl) fun kept12 =>
  ss_if (r_bl (r_V (r_args (r_V (r_args (r_sl rfl) (r_args_nil) rfl) (p_len (E := (zT zS)) (xs := kept12))) (r_args (r_c) (r_args_nil) rfl) rfl) (p_eq (e := zI) (a := ((kept12).length : Int)) (b := (0 : Int))))) (fun _ => sx_hoist fun r13 h_r13 => ss_assoc (ss_ret (r_call (r_args (r_sl rfl) (r_args (r_sl rfl) (r_args_nil) rfl) rfl) (s__law_sieve  h_r13)) (⟨rfl, rfl⟩))) (fun _ => ss_pass (ss_ret (r_imm (d := (zT zS) (kept12)) (r_sl rfl) (Im.im (e := (zT zS)) (kept12))) (⟨rfl, rfl⟩)))))
theorem s__law_filter_for {d0 : DSt} {letters0 : Letters} {label0 : TX} {first0 : Bool} {r : (List TX) × DSt} (h : t__law_filter_for d0 letters0 label0 first0 = some r) : F__law_filter_for [some (dst d0), some (eLetters letters0), some (zS label0), some (zB first0)] = some (.ok ((fun (b : (List TX) × DSt) => (zT zS) (b.1)) r) ((fun (b : (List TX) × DSt) => [some (dst (b.2)), some (eLetters letters0), some (zS label0), some (zB first0)]) r)) := by
  unfold F__law_filter_for
  exact fn_sim (V := fun (b : (List TX) × DSt) => (zT zS) (b.1)) (R := fun (b : (List TX) × DSt) => [some (dst (b.2)), some (eLetters letters0), some (zS label0), some (zB first0)]) (by first | rfl | simp [immA, immAt, Im.im]) (m__law_filter_for d0 letters0 label0 first0) h
def t__law_word (d0 : DSt) (letters0 : Letters) (most0 : Int) : Option (Word × DSt) :=
  bnd (1 : Int) fun count1 =>
  (if (decide ((1 : Int) < most0)) = true then (t__law_draw d0 (4 : Int)).bind fun r2 => some ((decide (r2.1 = (0 : Int))), r2.2) else some (false, d0)).bind fun b3 => (if b3.1 = true then
  (t__law_draw b3.2 (most0 - (1 : Int))).bind fun r4 => bnd ((2 : Int) + r4.1) fun count5 =>
  some (r4.2, count5)
  else
  some (b3.2, count1) : Option (DSt × Int)).bind fun c6 =>
  (rng1 c6.2).bind fun ks8 => (compO (fun (c : DSt) k9 => (t__law_labels ).bind fun r13 => (addO r13 [c_then, c_seen, c_over, c_past]).bind fun r14 => (t__law_pick c r14).bind fun r15 => some (r15.2, some r15.1)) ks8 c6.1).bind fun m16 => bnd m16.2 fun labels17 =>
  (atI labels17 (0 : Int)).bind fun r18 => (t__law_filter_for m16.1 letters0 r18 true).bind fun r19 => bnd [r19.1] fun filters20 =>
  (foldT (fun (c21 : DSt × (List (List TX))) label23 =>
  (t__law_filter_for c21.1 letters0 label23 false).bind fun r24 => (appO c21.2 r24.1).bind fun filters25 =>
  some (r24.2, filters25)) labels17 (r19.2, filters20)).bind fun c21 =>
  some ((c21.2, labels17), c21.1)
theorem m__law_word (d0 : DSt) (letters0 : Letters) (most0 : Int) : SimX g__law_word ([some (dst d0), some (eLetters letters0), some (zI most0), none, none, none, none, none] : DEnv) (t__law_word d0 letters0 most0) (FnK [3, 4, 5, 6] [some (dst d0), some (eLetters letters0), some (zI most0)] (fun (b : Word × DSt) => eWord (b.1)) (fun (b : Word × DSt) => [some (dst (b.2)), some (eLetters letters0), some (zI most0)])) := by
  unfold g__law_word t__law_word
  exact ss_asg (e := zI) (E := fun count1 => [some (dst d0), some (eLetters letters0), some (zI most0), some (zI count1), none, none, none, none]) (r_c) rfl (fun _ => rfl) fun count1 =>
  sx_blk (fe := cAnd (cBl (cV (cArgs [(.sl 2, cSl 2), (.own, cC (.int 1))]) gGt)) (cBl (cV (cArgs [(.own, cCall [.sl 0, .own] F__law_draw [0] (cArgs [(.sl 0, cSl 0), (.own, cC (.int 4))])), (.own, cC (.int 0))]) gEq))) (δe := [some (dst d0), some (eLetters letters0), some (zI most0), some (zI count1), none, none, none, none]) (V := fun (b : Bool × DSt) => b.1) (E := fun (b : Bool × DSt) => [some (dst b.2), some (eLetters letters0), some (zI most0), some (zI count1), none, none, none, none]) (sx_and (r_bl (r_V (r_args (r_sl rfl) (r_args (r_c) (r_args_nil) rfl) rfl) rfl)) (sx_hoist fun r2 h_r2 => sx_done (r_bl (r_V (r_args (r_call (r_args (r_sl rfl) (r_args (r_c) (r_args_nil) rfl) rfl) (s__law_draw  h_r2)) (r_args (r_c) (r_args_nil) rfl) rfl) (p_eq (e := zI) (a := r2.1) (b := (0 : Int))))) ⟨rfl, rfl⟩) ⟨rfl, rfl⟩) fun b3 h_b3 => ss_join (fun (c6 : DSt × Int) (s7 : Nat → Option D) => [some (dst c6.1), some (eLetters letters0), some (zI most0), some (zI c6.2), none, none, none, none]) (h_b3) (fun _ => sx_hoist fun r4 h_r4 => ss_asg (e := zI) (E := fun count5 => [some (dst r4.2), some (eLetters letters0), some (zI most0), some (zI count5), none, none, none, none]) (r_V (r_args (r_c) (r_args (r_call (r_args (r_sl rfl) (r_args (r_V (r_args (r_sl rfl) (r_args (r_c) (r_args_nil) rfl) rfl) rfl) (r_args_nil) rfl) rfl) (s__law_draw  h_r4)) (r_args_nil) rfl) rfl) rfl) rfl (fun _ => rfl) fun count5 =>
  ss_nx ⟨rfl, rfl⟩) (fun _ => ss_nx ⟨rfl, rfl⟩) fun c6 s7 =>
  sx_hoist fun ks8 h_ks8 => sx_hoist fun m16 h_m16 => ss_asg (e := (zL zS)) (E := fun labels17 => [some (dst m16.1), some (eLetters letters0), some (zI most0), some (zI c6.2), some ((zL zS) labels17), none, none, none]) (x_compO (e := zI) (e' := zS) (fun (c : DSt) => [some (dst c), some (eLetters letters0), some (zI most0), some (zI c6.2), none, none, none, none]) (fun (c : DSt) k9 => [some (dst c), some (eLetters letters0), some (zI most0), some (zI c6.2), none, none, none, some (zI k9)]) h_m16 (r_rng (r_args (r_sl rfl) (r_args_nil) rfl) (p_rng1 h_ks8)) rfl rfl rfl (fun _ _ => rfl) (fun c k9 => sx_el0 (sx_hoist fun r13 h_r13 => sx_hoist fun r14 h_r14 => sx_hoist fun r15 h_r15 => sx_done (r_call (r_args (r_sl rfl) (r_args (r_V (r_args (r_call (r_args_nil) (s__law_labels  h_r13)) (r_args (r_V (r_args (r_c) (r_args (r_c) (r_args (r_c) (r_args (r_c) (r_args_nil) rfl) rfl) rfl) rfl) (v_lst (Nat.le_of_ble_eq_true rfl))) (r_args_nil) rfl) rfl) (p_addL (e := zS) h_r14)) (r_args_nil) rfl) rfl) (s__law_pick (E := (zL zS)) h_r15)) ⟨rfl, rfl, rfl⟩))) rfl (fun _ => rfl) fun labels17 =>
  sx_hoist fun r18 h_r18 => sx_hoist fun r19 h_r19 => ss_asg (e := (zL (zT zS))) (E := fun filters20 => [some (dst r19.2), some (eLetters letters0), some (zI most0), some (zI c6.2), some ((zL zS) labels17), some ((zL (zT zS)) filters20), none, none]) (r_V (r_args (r_call (r_args (r_sl rfl) (r_args (r_sl rfl) (r_args (r_V (r_args (r_sl rfl) (r_args (r_c) (r_args_nil) rfl) rfl) (p_ix (E := (zL zS)) (e := zS) h_r18)) (r_args (r_c) (r_args_nil) rfl) rfl) rfl) rfl) (s__law_filter_for  h_r19)) (r_args_nil) rfl) (v_lst (Nat.le_of_ble_eq_true rfl))) rfl (fun _ => rfl) fun filters20 =>
  ss_fold (s0 := fun _ => none) (e := zS) (fun (c21 : DSt × (List (List TX))) (s22 : Nat → Option D) => [some (dst c21.1), some (eLetters letters0), some (zI most0), some (zI c6.2), some ((zL zS) labels17), some ((zL (zT zS)) c21.2), s22 6, none]) (fun (c21 : DSt × (List (List TX))) (s22 : Nat → Option D) label23 => [some (dst c21.1), some (eLetters letters0), some (zI most0), some (zI c6.2), some ((zL zS) labels17), some ((zL (zT zS)) c21.2), some (zS label23), none]) (r_items (r_sl rfl) (p_items (E := (zL zS)) (xs := labels17))) rfl (fun _ _ _ => rfl) (fun c21 s22 label23 =>
  sx_hoist fun r24 h_r24 => ss_app (e := (zT zS)) (E := fun filters25 => [some (dst r24.2), some (eLetters letters0), some (zI most0), some (zI c6.2), some ((zL zS) labels17), some ((zL (zT zS)) filters25), some (zS label23), none]) rfl (r_call (r_args (r_sl rfl) (r_args (r_sl rfl) (r_args (r_imm (d := zS (label23)) (r_sl rfl) (Im.im (e := zS) (label23))) (r_args (r_c) (r_args_nil) rfl) rfl) rfl) rfl) (s__law_filter_for  h_r24)) rfl (fun _ => rfl) fun filters25 =>
  ss_nx ⟨.inl rfl, rfl⟩) fun c21 s22 =>
  ss_ret (r_V (r_args (r_V (r_args (r_sl rfl) (r_args_nil) rfl) (p_tuple (E := (zL (zT zS))) (xs := c21.2))) (r_args (r_V (r_args (r_sl rfl) (r_args_nil) rfl) (p_tuple (E := (zL zS)) (xs := labels17))) (r_args_nil) rfl) rfl) (v_tup (Nat.le_of_ble_eq_true rfl))) (⟨rfl, rfl⟩)
theorem s__law_word {d0 : DSt} {letters0 : Letters} {most0 : Int} {r : Word × DSt} (h : t__law_word d0 letters0 most0 = some r) : F__law_word [some (dst d0), some (eLetters letters0), some (zI most0)] = some (.ok ((fun (b : Word × DSt) => eWord (b.1)) r) ((fun (b : Word × DSt) => [some (dst (b.2)), some (eLetters letters0), some (zI most0)]) r)) := by
  unfold F__law_word
  exact fn_sim (V := fun (b : Word × DSt) => eWord (b.1)) (R := fun (b : Word × DSt) => [some (dst (b.2)), some (eLetters letters0), some (zI most0)]) (by first | rfl | simp [immA, immAt, Im.im]) (m__law_word d0 letters0 most0) h
def t__law_words (d0 : DSt) (letters0 : Letters) (count0 : Int) (most0 : Int) : Option ((List Word) × DSt) :=
  bnd ([] : List Word) fun found1 =>
  (rng1 count0).bind fun ks2 => (foldT (fun (c3 : DSt × (List Word)) k5 =>
  (t__law_word c3.1 letters0 most0).bind fun r6 => bnd r6.1 fun word7 =>
  (if (!decide (word7 ∈ c3.2)) = true then
  (appO c3.2 word7).bind fun found8 =>
  some found8
  else
  some c3.2 : Option ((List Word))).bind fun c9 =>
  some (r6.2, c9)) ks2 (d0, found1)).bind fun c3 =>
  some (c3.2, c3.1)
theorem m__law_words (d0 : DSt) (letters0 : Letters) (count0 : Int) (most0 : Int) : SimX g__law_words ([some (dst d0), some (eLetters letters0), some (zI count0), some (zI most0), none, none, none] : DEnv) (t__law_words d0 letters0 count0 most0) (FnK [4, 5, 6] [some (dst d0), some (eLetters letters0), some (zI count0), some (zI most0)] (fun (b : (List Word) × DSt) => (zL eWord) (b.1)) (fun (b : (List Word) × DSt) => [some (dst (b.2)), some (eLetters letters0), some (zI count0), some (zI most0)])) := by
  unfold g__law_words t__law_words
  exact ss_asg (e := (zL eWord)) (E := fun found1 => [some (dst d0), some (eLetters letters0), some (zI count0), some (zI most0), some ((zL eWord) found1), none, none]) (r_V (r_args_nil) (v_lst (Nat.le_of_ble_eq_true rfl))) rfl (fun _ => rfl) fun found1 =>
  sx_hoist fun ks2 h_ks2 => ss_fold (s0 := fun _ => none) (e := zI) (fun (c3 : DSt × (List Word)) (s4 : Nat → Option D) => [some (dst c3.1), some (eLetters letters0), some (zI count0), some (zI most0), some ((zL eWord) c3.2), s4 5, s4 6]) (fun (c3 : DSt × (List Word)) (s4 : Nat → Option D) k5 => [some (dst c3.1), some (eLetters letters0), some (zI count0), some (zI most0), some ((zL eWord) c3.2), some (zI k5), s4 6]) (r_rng (r_args (r_sl rfl) (r_args_nil) rfl) (p_rng1 h_ks2)) rfl (fun _ _ _ => rfl) (fun c3 s4 k5 =>
  sx_hoist fun r6 h_r6 => ss_asg (e := eWord) (E := fun word7 => [some (dst r6.2), some (eLetters letters0), some (zI count0), some (zI most0), some ((zL eWord) c3.2), some (zI k5), some (eWord word7)]) (r_call (r_args (r_sl rfl) (r_args (r_sl rfl) (r_args (r_sl rfl) (r_args_nil) rfl) rfl) rfl) (s__law_word  h_r6)) rfl (fun _ => rfl) fun word7 =>
  ss_join (fun (c9 : (List Word)) (s10 : Nat → Option D) => [some (dst r6.2), some (eLetters letters0), some (zI count0), some (zI most0), some ((zL eWord) c9), some (zI k5), some (eWord word7)]) (r_bl (r_V (r_args (r_sl rfl) (r_args (r_sl rfl) (r_args_nil) rfl) rfl) (p_nin (E := (zL eWord)) (e := eWord) (a := word7) (xs := c3.2)))) (fun _ => ss_app (e := eWord) (E := fun found8 => [some (dst r6.2), some (eLetters letters0), some (zI count0), some (zI most0), some ((zL eWord) found8), some (zI k5), some (eWord word7)]) rfl (r_imm (d := eWord (word7)) (r_sl rfl) (Im.im (e := eWord) (word7))) rfl (fun _ => rfl) fun found8 =>
  ss_nx ⟨rfl, rfl⟩) (fun _ => ss_nx ⟨rfl, rfl⟩) fun c9 s10 =>
  ss_nx ⟨.inl rfl, rfl⟩) fun c3 s4 =>
  ss_ret (r_mv rfl) (⟨rfl, rfl⟩)
theorem s__law_words {d0 : DSt} {letters0 : Letters} {count0 : Int} {most0 : Int} {r : (List Word) × DSt} (h : t__law_words d0 letters0 count0 most0 = some r) : F__law_words [some (dst d0), some (eLetters letters0), some (zI count0), some (zI most0)] = some (.ok ((fun (b : (List Word) × DSt) => (zL eWord) (b.1)) r) ((fun (b : (List Word) × DSt) => [some (dst (b.2)), some (eLetters letters0), some (zI count0), some (zI most0)]) r)) := by
  unfold F__law_words
  exact fn_sim (V := fun (b : (List Word) × DSt) => (zL eWord) (b.1)) (R := fun (b : (List Word) × DSt) => [some (dst (b.2)), some (eLetters letters0), some (zI count0), some (zI most0)]) (by first | rfl | simp [immA, immAt, Im.im]) (m__law_words d0 letters0 count0 most0) h
def t__law_listed (d0 : DSt) (letters0 : Letters) (pool0 : (List Word)) (count0 : Int) (left0 : Int) : Option ((List Word) × DSt) :=
  bnd ([] : List Word) fun words1 =>
  (rng1 count0).bind fun ks2 => (foldT (fun (c3 : DSt × Int × (List Word)) k5 =>
  (t__law_pick c3.1 pool0).bind fun r6 => bnd r6.1 fun word7 =>
  (t__law_draw r6.2 (2 : Int)).bind fun r8 => (if (decide (r8.1 = (0 : Int))) = true then
  (t__law_word r8.2 letters0 (4 : Int)).bind fun r9 => bnd r9.1 fun word10 =>
  some (r9.2, word10)
  else
  some (r8.2, word7) : Option (DSt × Word)).bind fun c11 =>
  (if ((!decide (c11.2 ∈ c3.2.2)) && (decide (((c11.2.2).length : Int) ≤ c3.2.1))) = true then
  bnd (c3.2.1 - ((c11.2.2).length : Int)) fun left13 =>
  (appO c3.2.2 c11.2).bind fun words14 =>
  some (left13, words14)
  else
  some (c3.2.1, c3.2.2) : Option (Int × (List Word))).bind fun c15 =>
  some (c11.1, c15.1, c15.2)) ks2 (d0, left0, words1)).bind fun c3 =>
  some (c3.2.2, c3.1)
theorem m__law_listed (d0 : DSt) (letters0 : Letters) (pool0 : (List Word)) (count0 : Int) (left0 : Int) : SimX g__law_listed ([some (dst d0), some (eLetters letters0), some ((zL eWord) pool0), some (zI count0), some (zI left0), none, none, none] : DEnv) (t__law_listed d0 letters0 pool0 count0 left0) (FnK [4, 5, 6, 7] [some (dst d0), some (eLetters letters0), some ((zL eWord) pool0), some (zI count0), some (zI left0)] (fun (b : (List Word) × DSt) => (zT eWord) (b.1)) (fun (b : (List Word) × DSt) => [some (dst (b.2)), some (eLetters letters0), some ((zL eWord) pool0), some (zI count0), some (zI left0)])) := by
  unfold g__law_listed t__law_listed
  exact ss_asg (e := (zL eWord)) (E := fun words1 => [some (dst d0), some (eLetters letters0), some ((zL eWord) pool0), some (zI count0), some (zI left0), some ((zL eWord) words1), none, none]) (r_V (r_args_nil) (v_lst (Nat.le_of_ble_eq_true rfl))) rfl (fun _ => rfl) fun words1 =>
  sx_hoist fun ks2 h_ks2 => ss_fold (s0 := fun _ => none) (e := zI) (fun (c3 : DSt × Int × (List Word)) (s4 : Nat → Option D) => [some (dst c3.1), some (eLetters letters0), some ((zL eWord) pool0), some (zI count0), some (zI c3.2.1), some ((zL eWord) c3.2.2), s4 6, s4 7]) (fun (c3 : DSt × Int × (List Word)) (s4 : Nat → Option D) k5 => [some (dst c3.1), some (eLetters letters0), some ((zL eWord) pool0), some (zI count0), some (zI c3.2.1), some ((zL eWord) c3.2.2), some (zI k5), s4 7]) (r_rng (r_args (r_sl rfl) (r_args_nil) rfl) (p_rng1 h_ks2)) rfl (fun _ _ _ => rfl) (fun c3 s4 k5 =>
  sx_hoist fun r6 h_r6 => ss_asg (e := eWord) (E := fun word7 => [some (dst r6.2), some (eLetters letters0), some ((zL eWord) pool0), some (zI count0), some (zI c3.2.1), some ((zL eWord) c3.2.2), some (zI k5), some (eWord word7)]) (r_call (r_args (r_sl rfl) (r_args (r_sl rfl) (r_args_nil) rfl) rfl) (s__law_pick (E := (zL eWord)) h_r6)) rfl (fun _ => rfl) fun word7 =>
  sx_hoist fun r8 h_r8 => ss_join (fun (c11 : DSt × Word) (s12 : Nat → Option D) => [some (dst c11.1), some (eLetters letters0), some ((zL eWord) pool0), some (zI count0), some (zI c3.2.1), some ((zL eWord) c3.2.2), some (zI k5), some (eWord c11.2)]) (r_bl (r_V (r_args (r_call (r_args (r_sl rfl) (r_args (r_c) (r_args_nil) rfl) rfl) (s__law_draw  h_r8)) (r_args (r_c) (r_args_nil) rfl) rfl) (p_eq (e := zI) (a := r8.1) (b := (0 : Int))))) (fun _ => sx_hoist fun r9 h_r9 => ss_asg (e := eWord) (E := fun word10 => [some (dst r9.2), some (eLetters letters0), some ((zL eWord) pool0), some (zI count0), some (zI c3.2.1), some ((zL eWord) c3.2.2), some (zI k5), some (eWord word10)]) (r_call (r_args (r_sl rfl) (r_args (r_sl rfl) (r_args (r_c) (r_args_nil) rfl) rfl) rfl) (s__law_word  h_r9)) rfl (fun _ => rfl) fun word10 =>
  ss_nx ⟨rfl, rfl⟩) (fun _ => ss_nx ⟨rfl, rfl⟩) fun c11 s12 =>
  ss_join (fun (c15 : Int × (List Word)) (s16 : Nat → Option D) => [some (dst c11.1), some (eLetters letters0), some ((zL eWord) pool0), some (zI count0), some (zI c15.1), some ((zL eWord) c15.2), some (zI k5), some (eWord c11.2)]) (x_and (r_bl (r_V (r_args (r_sl rfl) (r_args (r_sl rfl) (r_args_nil) rfl) rfl) (p_nin (E := (zL eWord)) (e := eWord) (a := c11.2) (xs := c3.2.2)))) (r_bl (r_V (r_args (r_V (r_args (r_V (r_args (r_sl rfl) (r_args (r_c) (r_args_nil) rfl) rfl) (p_ixc (e := (zT zS)) (x := c11.2.2) rfl)) (r_args_nil) rfl) (p_len (E := (zT zS)) (xs := c11.2.2))) (r_args (r_sl rfl) (r_args_nil) rfl) rfl) rfl))) (fun _ => ss_asg (e := zI) (E := fun left13 => [some (dst c11.1), some (eLetters letters0), some ((zL eWord) pool0), some (zI count0), some (zI left13), some ((zL eWord) c3.2.2), some (zI k5), some (eWord c11.2)]) (r_V (r_args (r_sl rfl) (r_args (r_V (r_args (r_V (r_args (r_sl rfl) (r_args (r_c) (r_args_nil) rfl) rfl) (p_ixc (e := (zT zS)) (x := c11.2.2) rfl)) (r_args_nil) rfl) (p_len (E := (zT zS)) (xs := c11.2.2))) (r_args_nil) rfl) rfl) rfl) rfl (fun _ => rfl) fun left13 =>
  ss_app (e := eWord) (E := fun words14 => [some (dst c11.1), some (eLetters letters0), some ((zL eWord) pool0), some (zI count0), some (zI left13), some ((zL eWord) words14), some (zI k5), some (eWord c11.2)]) rfl (r_imm (d := eWord (c11.2)) (r_sl rfl) (Im.im (e := eWord) (c11.2))) rfl (fun _ => rfl) fun words14 =>
  ss_nx ⟨rfl, rfl⟩) (fun _ => ss_nx ⟨rfl, rfl⟩) fun c15 s16 =>
  ss_nx ⟨.inl rfl, rfl⟩) fun c3 s4 =>
  ss_ret (r_V (r_args (r_sl rfl) (r_args_nil) rfl) (p_tuple (E := (zL eWord)) (xs := c3.2.2))) (⟨rfl, rfl⟩)
theorem s__law_listed {d0 : DSt} {letters0 : Letters} {pool0 : (List Word)} {count0 : Int} {left0 : Int} {r : (List Word) × DSt} (h : t__law_listed d0 letters0 pool0 count0 left0 = some r) : F__law_listed [some (dst d0), some (eLetters letters0), some ((zL eWord) pool0), some (zI count0), some (zI left0)] = some (.ok ((fun (b : (List Word) × DSt) => (zT eWord) (b.1)) r) ((fun (b : (List Word) × DSt) => [some (dst (b.2)), some (eLetters letters0), some ((zL eWord) pool0), some (zI count0), some (zI left0)]) r)) := by
  unfold F__law_listed
  exact fn_sim (V := fun (b : (List Word) × DSt) => (zT eWord) (b.1)) (R := fun (b : (List Word) × DSt) => [some (dst (b.2)), some (eLetters letters0), some ((zL eWord) pool0), some (zI count0), some (zI left0)]) (by first | rfl | simp [immA, immAt, Im.im]) (m__law_listed d0 letters0 pool0 count0 left0) h
def c_aaaaaaaa : TX := ⟨"aaaaaaaa", by decide +kernel⟩
def c_b2 : TX := ⟨"b2", by decide +kernel⟩
def c_c : TX := ⟨"c", by decide +kernel⟩
def c_low8 : TX := ⟨"low8", by decide +kernel⟩
def c_m : TX := ⟨"m", by decide +kernel⟩
def c_main : TX := ⟨"main", by decide +kernel⟩
def c_top : TX := ⟨"top", by decide +kernel⟩
def t__law_broad (d0 : DSt) : Option (Mach × DSt) :=
  (t__law_letters d0 (8 : Int)).bind fun r1 => bnd r1.1 fun letters2 =>
  (t__law_rare r1.2 (6 : Int)).bind fun r3 => (if r3.1 = true then
  bnd (cutT letters2 none (some (1 : Int))) fun letters4 =>
  some letters4
  else
  some letters2 : Option (Letters)).bind fun c5 =>
  (t__law_words r3.2 c5 (4 : Int) (4 : Int)).bind fun r7 => bnd r7.1 fun pool8 =>
  bnd (24 : Int) fun left9 =>
  bnd ([] : List Bar) fun bars10 =>
  (t__law_shuffled r7.2 [c_main, c_b2, c_c, c_aaaaaaaa]).bind fun r11 => bnd r11.1 fun names12 =>
  (t__law_draw r11.2 (5 : Int)).bind fun r13 => (foldT (fun (c14 : DSt × Int × (List Bar)) name16 =>
  (t__law_draw c14.1 (9 : Int)).bind fun r17 => (t__law_listed r17.2 c5 pool8 r17.1 c14.2.1).bind fun r18 => bnd r18.1 fun chain19 =>
  (mapU (fun word20 => ((word20.2).length : Int)) chain19).bind fun m21 => bnd (c14.2.1 - (m21).sum) fun left22 =>
  bnd ([] : List Word) fun closing23 =>
  (if (decide (((chain19).length : Int) = (0 : Int))) = true then some (true, r18.2) else (t__law_draw r18.2 (2 : Int)).bind fun r24 => some ((decide (r24.1 = (0 : Int))), r24.2)).bind fun b25 => (if b25.1 = true then
  (t__law_draw b25.2 (6 : Int)).bind fun r26 => (t__law_listed r26.2 c5 pool8 ((1 : Int) + r26.1) left22).bind fun r27 => bnd r27.1 fun closing28 =>
  (mapU (fun word29 => ((word29.2).length : Int)) closing28).bind fun m30 => bnd (left22 - (m30).sum) fun left31 =>
  some (r27.2, left31, closing28)
  else
  some (b25.2, left22, closing23) : Option (DSt × Int × (List Word))).bind fun c32 =>
  (if (decide ((0 : Int) < ((c32.2.2).length : Int))) = true then
  (appO c14.2.2 (name16, c_shut, chain19, c32.2.2)).bind fun bars34 =>
  some bars34
  else
  (if (decide ((0 : Int) < ((chain19).length : Int))) = true then
  (appO c14.2.2 (name16, c_loop, chain19, ([] : List Word))).bind fun bars35 =>
  some bars35
  else
  some c14.2.2 : Option ((List Bar))).bind fun c36 =>
  some c36 : Option ((List Bar))).bind fun c38 =>
  some (c32.1, c32.2.1, c38)) (cutT names12 none (some r13.1)) (r13.2, left9, bars10)).bind fun c14 =>
  (t__law_pick c14.1 [c_m, c_top, c_low8]).bind fun r40 => some ((r40.1, c5, c14.2.2), r40.2)
theorem m__law_broad (d0 : DSt) : SimX g__law_broad ([some (dst d0), none, none, none, none, none, none, none, none, none] : DEnv) (t__law_broad d0) (FnK [1, 2, 3, 4, 5, 6, 7, 8] [some (dst d0)] (fun (b : Mach × DSt) => eMach (b.1)) (fun (b : Mach × DSt) => [some (dst (b.2))])) := by
  unfold g__law_broad t__law_broad
  exact sx_hoist fun r1 h_r1 => ss_asg (e := eLetters) (E := fun letters2 => [some (dst r1.2), some (eLetters letters2), none, none, none, none, none, none, none, none]) (r_call (r_args (r_sl rfl) (r_args (r_c) (r_args_nil) rfl) rfl) (s__law_letters  h_r1)) rfl (fun _ => rfl) fun letters2 =>
  sx_hoist fun r3 h_r3 => ss_join (fun (c5 : Letters) (s6 : Nat → Option D) => [some (dst r3.2), some (eLetters c5), none, none, none, none, none, none, none, none]) (r_tr (r_call (r_args (r_sl rfl) (r_args (r_c) (r_args_nil) rfl) rfl) (s__law_rare  h_r3)) rfl) (fun _ => ss_asg (e := eLetters) (E := fun letters4 => [some (dst r3.2), some (eLetters letters4), none, none, none, none, none, none, none, none]) (r_V (r_args (r_sl rfl) (r_args (r_c) (r_args_nil) rfl) rfl) (p_sl01 (E := eLetters) (xs := letters2))) rfl (fun _ => rfl) fun letters4 =>
  ss_nx ⟨rfl, rfl⟩) (fun _ => ss_nx ⟨rfl, rfl⟩) fun c5 s6 =>
  sx_hoist fun r7 h_r7 => ss_asg (e := (zL eWord)) (E := fun pool8 => [some (dst r7.2), some (eLetters c5), some ((zL eWord) pool8), none, none, none, none, none, none, none]) (r_call (r_args (r_sl rfl) (r_args (r_imm (d := eLetters (c5)) (r_sl rfl) (Im.im (e := eLetters) (c5))) (r_args (r_c) (r_args (r_c) (r_args_nil) rfl) rfl) rfl) rfl) (s__law_words  h_r7)) rfl (fun _ => rfl) fun pool8 =>
  ss_asg (e := zI) (E := fun left9 => [some (dst r7.2), some (eLetters c5), some ((zL eWord) pool8), some (zI left9), none, none, none, none, none, none]) (r_c) rfl (fun _ => rfl) fun left9 =>
  ss_asg (e := (zL eBar)) (E := fun bars10 => [some (dst r7.2), some (eLetters c5), some ((zL eWord) pool8), some (zI left9), some ((zL eBar) bars10), none, none, none, none, none]) (r_V (r_args_nil) (v_lst (Nat.le_of_ble_eq_true rfl))) rfl (fun _ => rfl) fun bars10 =>
  sx_hoist fun r11 h_r11 => ss_asg (e := (zL zS)) (E := fun names12 => [some (dst r11.2), some (eLetters c5), some ((zL eWord) pool8), some (zI left9), some ((zL eBar) bars10), some ((zL zS) names12), none, none, none, none]) (r_call (r_args (r_sl rfl) (r_args (r_V (r_args (r_c) (r_args (r_c) (r_args (r_c) (r_args (r_c) (r_args_nil) rfl) rfl) rfl) rfl) (v_lst (Nat.le_of_ble_eq_true rfl))) (r_args_nil) rfl) rfl) (s__law_shuffled (E := (zL zS)) h_r11)) rfl (fun _ => rfl) fun names12 =>
  sx_hoist fun r13 h_r13 => ss_fold (s0 := fun _ => none) (e := zS) (fun (c14 : DSt × Int × (List Bar)) (s15 : Nat → Option D) => [some (dst c14.1), some (eLetters c5), some ((zL eWord) pool8), some (zI c14.2.1), some ((zL eBar) c14.2.2), some ((zL zS) names12), s15 6, s15 7, s15 8, none]) (fun (c14 : DSt × Int × (List Bar)) (s15 : Nat → Option D) name16 => [some (dst c14.1), some (eLetters c5), some ((zL eWord) pool8), some (zI c14.2.1), some ((zL eBar) c14.2.2), some ((zL zS) names12), some (zS name16), s15 7, s15 8, none]) (r_items (r_V (r_args (r_sl rfl) (r_args (r_call (r_args (r_sl rfl) (r_args (r_c) (r_args_nil) rfl) rfl) (s__law_draw  h_r13)) (r_args_nil) rfl) rfl) (p_sl01 (E := (zL zS)) (xs := names12))) (p_items (E := (zL zS)) (xs := (cutT names12 none (some r13.1))))) rfl (fun _ _ _ => rfl) (fun c14 s15 name16 =>
  sx_hoist fun r17 h_r17 => sx_hoist fun r18 h_r18 => ss_asg (e := (zT eWord)) (E := fun chain19 => [some (dst r18.2), some (eLetters c5), some ((zL eWord) pool8), some (zI c14.2.1), some ((zL eBar) c14.2.2), some ((zL zS) names12), some (zS name16), some ((zT eWord) chain19), s15 8, none]) (r_call (r_args (r_sl rfl) (r_args (r_imm (d := eLetters (c5)) (r_sl rfl) (Im.im (e := eLetters) (c5))) (r_args (r_sl rfl) (r_args (r_call (r_args (r_sl rfl) (r_args (r_c) (r_args_nil) rfl) rfl) (s__law_draw  h_r17)) (r_args (r_imm (d := zI (c14.2.1)) (r_sl rfl) (Im.im (e := zI) (c14.2.1))) (r_args_nil) rfl) rfl) rfl) rfl) rfl) (s__law_listed  h_r18)) rfl (fun _ => rfl) fun chain19 =>
  sx_hoist fun m21 h_m21 => ss_asg (e := zI) (E := fun left22 => [some (dst r18.2), some (eLetters c5), some ((zL eWord) pool8), some (zI left22), some ((zL eBar) c14.2.2), some ((zL zS) names12), some (zS name16), some ((zT eWord) chain19), s15 8, none]) (r_V (r_args (r_sl rfl) (r_args (r_V (r_args (x_compU (e := eWord) (e' := zI) (E1 := fun word20 => [some (dst r18.2), some (eLetters c5), some ((zL eWord) pool8), some (zI c14.2.1), some ((zL eBar) c14.2.2), some ((zL zS) names12), some (zS name16), some ((zT eWord) chain19), s15 8, some (eWord word20)]) h_m21 (r_items (r_sl rfl) (p_items (E := (zT eWord)) (xs := chain19))) rfl rfl (fun _ => rfl) (fun _ => rfl) (fun _ => rfl) (fun word20 => r_V (r_args (r_V (r_args (r_sl rfl) (r_args (r_c) (r_args_nil) rfl) rfl) (p_ixc (e := (zT zS)) (x := word20.2) rfl)) (r_args_nil) rfl) (p_len (E := (zT zS)) (xs := word20.2)))) (r_args_nil) rfl) (p_sum (xs := m21))) (r_args_nil) rfl) rfl) rfl) rfl (fun _ => rfl) fun left22 =>
  ss_asg (e := (zT eWord)) (E := fun closing23 => [some (dst r18.2), some (eLetters c5), some ((zL eWord) pool8), some (zI left22), some ((zL eBar) c14.2.2), some ((zL zS) names12), some (zS name16), some ((zT eWord) chain19), some ((zT eWord) closing23), none]) (r_V (r_args_nil) (v_tup (Nat.le_of_ble_eq_true rfl))) rfl (fun _ => rfl) fun closing23 =>
  sx_blk (fe := cOr (cBl (cV (cArgs [(.own, cV (cArgs [(.sl 7, cSl 7)]) gLen), (.own, cC (.int 0))]) gEq)) (cBl (cV (cArgs [(.own, cCall [.sl 0, .own] F__law_draw [0] (cArgs [(.sl 0, cSl 0), (.own, cC (.int 2))])), (.own, cC (.int 0))]) gEq))) (δe := [some (dst r18.2), some (eLetters c5), some ((zL eWord) pool8), some (zI left22), some ((zL eBar) c14.2.2), some ((zL zS) names12), some (zS name16), some ((zT eWord) chain19), some ((zT eWord) closing23), none]) (V := fun (b : Bool × DSt) => b.1) (E := fun (b : Bool × DSt) => [some (dst b.2), some (eLetters c5), some ((zL eWord) pool8), some (zI left22), some ((zL eBar) c14.2.2), some ((zL zS) names12), some (zS name16), some ((zT eWord) chain19), some ((zT eWord) closing23), none]) (sx_or (r_bl (r_V (r_args (r_V (r_args (r_sl rfl) (r_args_nil) rfl) (p_len (E := (zT eWord)) (xs := chain19))) (r_args (r_c) (r_args_nil) rfl) rfl) (p_eq (e := zI) (a := ((chain19).length : Int)) (b := (0 : Int))))) (sx_hoist fun r24 h_r24 => sx_done (r_bl (r_V (r_args (r_call (r_args (r_sl rfl) (r_args (r_c) (r_args_nil) rfl) rfl) (s__law_draw  h_r24)) (r_args (r_c) (r_args_nil) rfl) rfl) (p_eq (e := zI) (a := r24.1) (b := (0 : Int))))) ⟨rfl, rfl⟩) ⟨rfl, rfl⟩) fun b25 h_b25 => ss_join (fun (c32 : DSt × Int × (List Word)) (s33 : Nat → Option D) => [some (dst c32.1), some (eLetters c5), some ((zL eWord) pool8), some (zI c32.2.1), some ((zL eBar) c14.2.2), some ((zL zS) names12), some (zS name16), some ((zT eWord) chain19), some ((zT eWord) c32.2.2), none]) (h_b25) (fun _ => sx_hoist fun r26 h_r26 => sx_hoist fun r27 h_r27 => ss_asg (e := (zT eWord)) (E := fun closing28 => [some (dst r27.2), some (eLetters c5), some ((zL eWord) pool8), some (zI left22), some ((zL eBar) c14.2.2), some ((zL zS) names12), some (zS name16), some ((zT eWord) chain19), some ((zT eWord) closing28), none]) (r_call (r_args (r_sl rfl) (r_args (r_imm (d := eLetters (c5)) (r_sl rfl) (Im.im (e := eLetters) (c5))) (r_args (r_sl rfl) (r_args (r_V (r_args (r_c) (r_args (r_call (r_args (r_sl rfl) (r_args (r_c) (r_args_nil) rfl) rfl) (s__law_draw  h_r26)) (r_args_nil) rfl) rfl) rfl) (r_args (r_imm (d := zI (left22)) (r_sl rfl) (Im.im (e := zI) (left22))) (r_args_nil) rfl) rfl) rfl) rfl) rfl) (s__law_listed  h_r27)) rfl (fun _ => rfl) fun closing28 =>
  sx_hoist fun m30 h_m30 => ss_asg (e := zI) (E := fun left31 => [some (dst r27.2), some (eLetters c5), some ((zL eWord) pool8), some (zI left31), some ((zL eBar) c14.2.2), some ((zL zS) names12), some (zS name16), some ((zT eWord) chain19), some ((zT eWord) closing28), none]) (r_V (r_args (r_sl rfl) (r_args (r_V (r_args (x_compU (e := eWord) (e' := zI) (E1 := fun word29 => [some (dst r27.2), some (eLetters c5), some ((zL eWord) pool8), some (zI left22), some ((zL eBar) c14.2.2), some ((zL zS) names12), some (zS name16), some ((zT eWord) chain19), some ((zT eWord) closing28), some (eWord word29)]) h_m30 (r_items (r_sl rfl) (p_items (E := (zT eWord)) (xs := closing28))) rfl rfl (fun _ => rfl) (fun _ => rfl) (fun _ => rfl) (fun word29 => r_V (r_args (r_V (r_args (r_sl rfl) (r_args (r_c) (r_args_nil) rfl) rfl) (p_ixc (e := (zT zS)) (x := word29.2) rfl)) (r_args_nil) rfl) (p_len (E := (zT zS)) (xs := word29.2)))) (r_args_nil) rfl) (p_sum (xs := m30))) (r_args_nil) rfl) rfl) rfl) rfl (fun _ => rfl) fun left31 =>
  ss_nx ⟨rfl, rfl⟩) (fun _ => ss_nx ⟨rfl, rfl⟩) fun c32 s33 =>
  ss_join (fun (c38 : (List Bar)) (s39 : Nat → Option D) => [some (dst c32.1), some (eLetters c5), some ((zL eWord) pool8), some (zI c32.2.1), some ((zL eBar) c38), some ((zL zS) names12), some (zS name16), some ((zT eWord) chain19), some ((zT eWord) c32.2.2), none]) (r_bl (r_V (r_args (r_V (r_args (r_sl rfl) (r_args_nil) rfl) (p_len (E := (zT eWord)) (xs := c32.2.2))) (r_args (r_c) (r_args_nil) rfl) rfl) rfl)) (fun _ => ss_app (e := eBar) (E := fun bars34 => [some (dst c32.1), some (eLetters c5), some ((zL eWord) pool8), some (zI c32.2.1), some ((zL eBar) bars34), some ((zL zS) names12), some (zS name16), some ((zT eWord) chain19), some ((zT eWord) c32.2.2), none]) rfl (r_V (r_args (r_imm (d := zS (name16)) (r_sl rfl) (Im.im (e := zS) (name16))) (r_args (r_c) (r_args (r_imm (d := (zT eWord) (chain19)) (r_sl rfl) (Im.im (e := (zT eWord)) (chain19))) (r_args (r_imm (d := (zT eWord) (c32.2.2)) (r_sl rfl) (Im.im (e := (zT eWord)) (c32.2.2))) (r_args_nil) rfl) rfl) rfl) rfl) (v_tup (Nat.le_of_ble_eq_true rfl))) rfl (fun _ => rfl) fun bars34 =>
  ss_nx ⟨rfl, rfl⟩) (fun _ => ss_join (fun (c36 : (List Bar)) (s37 : Nat → Option D) => [some (dst c32.1), some (eLetters c5), some ((zL eWord) pool8), some (zI c32.2.1), some ((zL eBar) c36), some ((zL zS) names12), some (zS name16), some ((zT eWord) chain19), some ((zT eWord) c32.2.2), none]) (r_bl (r_V (r_args (r_V (r_args (r_sl rfl) (r_args_nil) rfl) (p_len (E := (zT eWord)) (xs := chain19))) (r_args (r_c) (r_args_nil) rfl) rfl) rfl)) (fun _ => ss_app (e := eBar) (E := fun bars35 => [some (dst c32.1), some (eLetters c5), some ((zL eWord) pool8), some (zI c32.2.1), some ((zL eBar) bars35), some ((zL zS) names12), some (zS name16), some ((zT eWord) chain19), some ((zT eWord) c32.2.2), none]) rfl (r_V (r_args (r_imm (d := zS (name16)) (r_sl rfl) (Im.im (e := zS) (name16))) (r_args (r_c) (r_args (r_imm (d := (zT eWord) (chain19)) (r_sl rfl) (Im.im (e := (zT eWord)) (chain19))) (r_args (r_V (r_args_nil) (v_tup (Nat.le_of_ble_eq_true rfl))) (r_args_nil) rfl) rfl) rfl) rfl) (v_tup (Nat.le_of_ble_eq_true rfl))) rfl (fun _ => rfl) fun bars35 =>
  ss_nx ⟨rfl, rfl⟩) (fun _ => ss_nx ⟨rfl, rfl⟩) fun c36 s37 =>
  ss_nx ⟨rfl, rfl⟩) fun c38 s39 =>
  ss_nx ⟨.inl rfl, rfl⟩) fun c14 s15 =>
  sx_hoist fun r40 h_r40 => ss_ret (r_V (r_args (r_call (r_args (r_sl rfl) (r_args (r_V (r_args (r_c) (r_args (r_c) (r_args (r_c) (r_args_nil) rfl) rfl) rfl) (v_lst (Nat.le_of_ble_eq_true rfl))) (r_args_nil) rfl) rfl) (s__law_pick (E := (zL zS)) h_r40)) (r_args (r_imm (d := eLetters (c5)) (r_sl rfl) (Im.im (e := eLetters) (c5))) (r_args (r_V (r_args (r_sl rfl) (r_args_nil) rfl) (p_tuple (E := (zL eBar)) (xs := c14.2.2))) (r_args_nil) rfl) rfl) rfl) (v_tup (Nat.le_of_ble_eq_true rfl))) (⟨rfl, rfl⟩)
theorem s__law_broad {d0 : DSt} {r : Mach × DSt} (h : t__law_broad d0 = some r) : F__law_broad [some (dst d0)] = some (.ok ((fun (b : Mach × DSt) => eMach (b.1)) r) ((fun (b : Mach × DSt) => [some (dst (b.2))]) r)) := by
  unfold F__law_broad
  exact fn_sim (V := fun (b : Mach × DSt) => eMach (b.1)) (R := fun (b : Mach × DSt) => [some (dst (b.2))]) (by first | rfl | simp [immA, immAt, Im.im]) (m__law_broad d0) h
def t__law_named (machine0 : Mach) : Option ((List (Int × Int × Int))) :=
  bnd ([] : List (Int × Int × Int)) fun found1 =>
  (rng1 ((machine0.2.2).length : Int)).bind fun ks2 => (foldT (fun (c3 : (List (Int × Int × Int))) number5 =>
  (foldT (fun (c6 : (List (Int × Int × Int))) part8 =>
  (atI machine0.2.2 number5).bind fun r9 => (ixTail 2 [r9.2.2.1, r9.2.2.2] ((2 : Int) + part8)).bind fun r10 => (rng1 ((r10).length : Int)).bind fun ks11 => (foldT (fun (c12 : (List (Int × Int × Int))) index14 =>
  (appO c12 (number5, part8, index14)).bind fun found15 =>
  some found15) ks11 c6).bind fun c12 =>
  some c12) [(0 : Int), (1 : Int)] c3).bind fun c6 =>
  some c6) ks2 found1).bind fun c3 =>
  some c3
theorem m__law_named (machine0 : Mach) : SimX g__law_named ([some (eMach machine0), none, none, none, none] : DEnv) (t__law_named machine0) (FnK [1, 2, 3, 4] [some (eMach machine0)] (fun (b : (List (Int × Int × Int))) => (zL (z3 zI zI zI)) (b)) (fun (b : (List (Int × Int × Int))) => [some (eMach machine0)])) := by
  unfold g__law_named t__law_named
  exact ss_asg (e := (zL (z3 zI zI zI))) (E := fun found1 => [some (eMach machine0), some ((zL (z3 zI zI zI)) found1), none, none, none]) (r_V (r_args_nil) (v_lst (Nat.le_of_ble_eq_true rfl))) rfl (fun _ => rfl) fun found1 =>
  sx_hoist fun ks2 h_ks2 => ss_fold (s0 := fun _ => none) (e := zI) (fun (c3 : (List (Int × Int × Int))) (s4 : Nat → Option D) => [some (eMach machine0), some ((zL (z3 zI zI zI)) c3), s4 2, s4 3, s4 4]) (fun (c3 : (List (Int × Int × Int))) (s4 : Nat → Option D) number5 => [some (eMach machine0), some ((zL (z3 zI zI zI)) c3), some (zI number5), s4 3, s4 4]) (r_rng (r_args (r_V (r_args (r_V (r_args (r_sl rfl) (r_args (r_c) (r_args_nil) rfl) rfl) (p_ixc (e := (zT eBar)) (x := machine0.2.2) rfl)) (r_args_nil) rfl) (p_len (E := (zT eBar)) (xs := machine0.2.2))) (r_args_nil) rfl) (p_rng1 h_ks2)) rfl (fun _ _ _ => rfl) (fun c3 s4 number5 =>
  ss_fold (s0 := fun _ => none) (e := zI) (fun (c6 : (List (Int × Int × Int))) (s7 : Nat → Option D) => [some (eMach machine0), some ((zL (z3 zI zI zI)) c6), some (zI number5), s7 3, s7 4]) (fun (c6 : (List (Int × Int × Int))) (s7 : Nat → Option D) part8 => [some (eMach machine0), some ((zL (z3 zI zI zI)) c6), some (zI number5), some (zI part8), s7 4]) (r_items (r_V (r_args (r_c) (r_args (r_c) (r_args_nil) rfl) rfl) (v_lst (Nat.le_of_ble_eq_true rfl))) (p_items (E := (zL zI)) (xs := [(0 : Int), (1 : Int)]))) rfl (fun _ _ _ => rfl) (fun c6 s7 part8 =>
  sx_hoist fun r9 h_r9 => sx_hoist fun r10 h_r10 => sx_hoist fun ks11 h_ks11 => ss_fold (s0 := fun _ => none) (e := zI) (fun (c12 : (List (Int × Int × Int))) (s13 : Nat → Option D) => [some (eMach machine0), some ((zL (z3 zI zI zI)) c12), some (zI number5), some (zI part8), s13 4]) (fun (c12 : (List (Int × Int × Int))) (s13 : Nat → Option D) index14 => [some (eMach machine0), some ((zL (z3 zI zI zI)) c12), some (zI number5), some (zI part8), some (zI index14)]) (r_rng (r_args (r_V (r_args (r_V (r_args (r_V (r_args (r_V (r_args (r_sl rfl) (r_args (r_c) (r_args_nil) rfl) rfl) (p_ixc (e := (zT eBar)) (x := machine0.2.2) rfl)) (r_args (r_sl rfl) (r_args_nil) rfl) rfl) (p_ix (E := (zT eBar)) (e := eBar) h_r9)) (r_args (r_V (r_args (r_c) (r_args (r_sl rfl) (r_args_nil) rfl) rfl) rfl) (r_args_nil) rfl) rfl) (p_ixTail (e := (zT eWord)) (pre := [zS r9.1, zS r9.2.1]) h_r10)) (r_args_nil) rfl) (p_len (E := (zT eWord)) (xs := r10))) (r_args_nil) rfl) (p_rng1 h_ks11)) rfl (fun _ _ _ => rfl) (fun c12 s13 index14 =>
  ss_app (e := (z3 zI zI zI)) (E := fun found15 => [some (eMach machine0), some ((zL (z3 zI zI zI)) found15), some (zI number5), some (zI part8), some (zI index14)]) rfl (r_V (r_args (r_imm (d := zI (number5)) (r_sl rfl) (Im.im (e := zI) (number5))) (r_args (r_imm (d := zI (part8)) (r_sl rfl) (Im.im (e := zI) (part8))) (r_args (r_imm (d := zI (index14)) (r_sl rfl) (Im.im (e := zI) (index14))) (r_args_nil) rfl) rfl) rfl) (v_tup (Nat.le_of_ble_eq_true rfl))) rfl (fun _ => rfl) fun found15 =>
  ss_nx ⟨.inl rfl, rfl⟩) fun c12 s13 =>
  ss_nx ⟨.inl rfl, rfl⟩) fun c6 s7 =>
  ss_nx ⟨.inl rfl, rfl⟩) fun c3 s4 =>
  ss_ret (r_mv rfl) (⟨rfl, rfl⟩)
theorem s__law_named {machine0 : Mach} {r : (List (Int × Int × Int))} (h : t__law_named machine0 = some r) : F__law_named [some (eMach machine0)] = some (.ok ((fun (b : (List (Int × Int × Int))) => (zL (z3 zI zI zI)) (b)) r) ((fun (b : (List (Int × Int × Int))) => [some (eMach machine0)]) r)) := by
  unfold F__law_named
  exact fn_sim (V := fun (b : (List (Int × Int × Int))) => (zL (z3 zI zI zI)) (b)) (R := fun (b : (List (Int × Int × Int))) => [some (eMach machine0)]) (by first | rfl | simp [immA, immAt, Im.im]) (m__law_named machine0) h
def t__law_unnamed (machine0 : Mach) (number0 : Int) (part0 : Int) (gone0 : (List (Int × Int × Int))) : Option ((List Word)) :=
  (atI machine0.2.2 number0).bind fun r1 => (ixTail 2 [r1.2.2.1, r1.2.2.2] ((2 : Int) + part0)).bind fun r2 => bnd r2 fun words3 =>
  (rng1 ((words3).length : Int)).bind fun ks4 => (compO (fun (c : Unit) index5 => if (!decide ((number0, part0, index5) ∈ gone0)) = true then (atI words3 index5).bind fun r7 => some ((), some r7) else some ((), none)) ks4 ()).bind fun m8 => some m8.2
theorem m__law_unnamed (machine0 : Mach) (number0 : Int) (part0 : Int) (gone0 : (List (Int × Int × Int))) : SimX g__law_unnamed ([some (eMach machine0), some (zI number0), some (zI part0), some ((zL (z3 zI zI zI)) gone0), none, none] : DEnv) (t__law_unnamed machine0 number0 part0 gone0) (FnK [4] [some (eMach machine0), some (zI number0), some (zI part0), some ((zL (z3 zI zI zI)) gone0)] (fun (b : (List Word)) => (zL eWord) (b)) (fun (b : (List Word)) => [some (eMach machine0), some (zI number0), some (zI part0), some ((zL (z3 zI zI zI)) gone0)])) := by
  unfold g__law_unnamed t__law_unnamed
  exact sx_hoist fun r1 h_r1 => sx_hoist fun r2 h_r2 => ss_asg (e := (zT eWord)) (E := fun words3 => [some (eMach machine0), some (zI number0), some (zI part0), some ((zL (z3 zI zI zI)) gone0), some ((zT eWord) words3), none]) (r_V (r_args (r_V (r_args (r_V (r_args (r_sl rfl) (r_args (r_c) (r_args_nil) rfl) rfl) (p_ixc (e := (zT eBar)) (x := machine0.2.2) rfl)) (r_args (r_sl rfl) (r_args_nil) rfl) rfl) (p_ix (E := (zT eBar)) (e := eBar) h_r1)) (r_args (r_V (r_args (r_c) (r_args (r_sl rfl) (r_args_nil) rfl) rfl) rfl) (r_args_nil) rfl) rfl) (p_ixTail (e := (zT eWord)) (pre := [zS r1.1, zS r1.2.1]) h_r2)) rfl (fun _ => rfl) fun words3 =>
  sx_hoist fun ks4 h_ks4 => sx_hoist fun m8 h_m8 => ss_ret (x_compO (e := zI) (e' := eWord) (fun (c : Unit) => [some (eMach machine0), some (zI number0), some (zI part0), some ((zL (z3 zI zI zI)) gone0), some ((zT eWord) words3), none]) (fun (c : Unit) index5 => [some (eMach machine0), some (zI number0), some (zI part0), some ((zL (z3 zI zI zI)) gone0), some ((zT eWord) words3), some (zI index5)]) h_m8 (r_rng (r_args (r_V (r_args (r_sl rfl) (r_args_nil) rfl) (p_len (E := (zT eWord)) (xs := words3))) (r_args_nil) rfl) (p_rng1 h_ks4)) rfl rfl rfl (fun _ _ => rfl) (fun c index5 => sx_el (r_bl (r_V (r_args (r_V (r_args (r_imm (d := zI (number0)) (r_sl rfl) (Im.im (e := zI) (number0))) (r_args (r_imm (d := zI (part0)) (r_sl rfl) (Im.im (e := zI) (part0))) (r_args (r_imm (d := zI (index5)) (r_sl rfl) (Im.im (e := zI) (index5))) (r_args_nil) rfl) rfl) rfl) (v_tup (Nat.le_of_ble_eq_true rfl))) (r_args (r_sl rfl) (r_args_nil) rfl) rfl) (p_nin (E := (zL (z3 zI zI zI))) (e := (z3 zI zI zI)) (a := (number0, part0, index5)) (xs := gone0)))) (fun _ => sx_hoist fun r7 h_r7 => sx_done (r_V (r_args (r_sl rfl) (r_args (r_sl rfl) (r_args_nil) rfl) rfl) (p_ix (E := (zT eWord)) (e := eWord) h_r7)) ⟨rfl, rfl, rfl⟩) ⟨rfl, rfl, rfl⟩)) (⟨rfl, rfl⟩)
theorem s__law_unnamed {machine0 : Mach} {number0 : Int} {part0 : Int} {gone0 : (List (Int × Int × Int))} {r : (List Word)} (h : t__law_unnamed machine0 number0 part0 gone0 = some r) : F__law_unnamed [some (eMach machine0), some (zI number0), some (zI part0), some ((zL (z3 zI zI zI)) gone0)] = some (.ok ((fun (b : (List Word)) => (zL eWord) (b)) r) ((fun (b : (List Word)) => [some (eMach machine0), some (zI number0), some (zI part0), some ((zL (z3 zI zI zI)) gone0)]) r)) := by
  unfold F__law_unnamed
  exact fn_sim (V := fun (b : (List Word)) => (zL eWord) (b)) (R := fun (b : (List Word)) => [some (eMach machine0), some (zI number0), some (zI part0), some ((zL (z3 zI zI zI)) gone0)]) (by first | rfl | simp [immA, immAt, Im.im]) (m__law_unnamed machine0 number0 part0 gone0) h
def t__law_stays (machine0 : Mach) (number0 : Int) (gone0 : (List (Int × Int × Int))) : Option (Bool) :=
  (atI machine0.2.2 number0).bind fun r1 => bnd (if (decide (r1.2.1 = c_loop)) = true then (0 : Int) else (1 : Int)) fun part2 =>
  (t__law_unnamed machine0 number0 part2 gone0).bind fun r3 => some (decide ((0 : Int) < ((r3).length : Int)))
theorem m__law_stays (machine0 : Mach) (number0 : Int) (gone0 : (List (Int × Int × Int))) : SimX g__law_stays ([some (eMach machine0), some (zI number0), some ((zL (z3 zI zI zI)) gone0), none] : DEnv) (t__law_stays machine0 number0 gone0) (FnK [3] [some (eMach machine0), some (zI number0), some ((zL (z3 zI zI zI)) gone0)] (fun (b : Bool) => zB (b)) (fun (b : Bool) => [some (eMach machine0), some (zI number0), some ((zL (z3 zI zI zI)) gone0)])) := by
  unfold g__law_stays t__law_stays
  exact sx_hoist fun r1 h_r1 => ss_asg (e := zI) (E := fun part2 => [some (eMach machine0), some (zI number0), some ((zL (z3 zI zI zI)) gone0), some (zI part2)]) (x_ifE (e := zI) (r_bl (r_V (r_args (r_V (r_args (r_V (r_args (r_V (r_args (r_sl rfl) (r_args (r_c) (r_args_nil) rfl) rfl) (p_ixc (e := (zT eBar)) (x := machine0.2.2) rfl)) (r_args (r_sl rfl) (r_args_nil) rfl) rfl) (p_ix (E := (zT eBar)) (e := eBar) h_r1)) (r_args (r_c) (r_args_nil) rfl) rfl) (p_ixc (e := zS) (x := r1.2.1) rfl)) (r_args (r_c) (r_args_nil) rfl) rfl) (p_eq (e := zS) (a := r1.2.1) (b := c_loop)))) (r_c) (r_c)) rfl (fun _ => rfl) fun part2 =>
  sx_hoist fun r3 h_r3 => ss_ret (r_V (r_args (r_V (r_args (r_call (r_args (r_sl rfl) (r_args (r_sl rfl) (r_args (r_imm (d := zI (part2)) (r_sl rfl) (Im.im (e := zI) (part2))) (r_args (r_sl rfl) (r_args_nil) rfl) rfl) rfl) rfl) (s__law_unnamed  h_r3)) (r_args_nil) rfl) (p_len (E := (zL eWord)) (xs := r3))) (r_args (r_c) (r_args_nil) rfl) rfl) rfl) (⟨rfl, rfl⟩)
theorem s__law_stays {machine0 : Mach} {number0 : Int} {gone0 : (List (Int × Int × Int))} {r : Bool} (h : t__law_stays machine0 number0 gone0 = some r) : F__law_stays [some (eMach machine0), some (zI number0), some ((zL (z3 zI zI zI)) gone0)] = some (.ok ((fun (b : Bool) => zB (b)) r) ((fun (b : Bool) => [some (eMach machine0), some (zI number0), some ((zL (z3 zI zI zI)) gone0)]) r)) := by
  unfold F__law_stays
  exact fn_sim (V := fun (b : Bool) => zB (b)) (R := fun (b : Bool) => [some (eMach machine0), some (zI number0), some ((zL (z3 zI zI zI)) gone0)]) (by first | rfl | simp [immA, immAt, Im.im]) (m__law_stays machine0 number0 gone0) h
def t__law_left (machine0 : Mach) (gone0 : (List (Int × Int × Int))) : Option (Mach) :=
  bnd ([] : List Bar) fun bars1 =>
  (rng1 ((machine0.2.2).length : Int)).bind fun ks2 => (foldT (fun (c3 : (List Bar)) number5 =>
  (t__law_stays machine0 number5 gone0).bind fun r6 => (if r6 = true then
  (t__law_unnamed machine0 number5 (0 : Int) gone0).bind fun r7 => bnd r7 fun chain8 =>
  (t__law_unnamed machine0 number5 (1 : Int) gone0).bind fun r9 => bnd r9 fun closing10 =>
  (atI machine0.2.2 number5).bind fun r11 => (atI machine0.2.2 number5).bind fun r12 => (appO c3 (r11.1, r12.2.1, chain8, closing10)).bind fun bars13 =>
  some bars13
  else
  some c3 : Option ((List Bar))).bind fun c14 =>
  some c14) ks2 bars1).bind fun c3 =>
  some (machine0.1, machine0.2.1, c3)
theorem m__law_left (machine0 : Mach) (gone0 : (List (Int × Int × Int))) : SimX g__law_left ([some (eMach machine0), some ((zL (z3 zI zI zI)) gone0), none, none, none, none] : DEnv) (t__law_left machine0 gone0) (FnK [2, 3, 4, 5] [some (eMach machine0), some ((zL (z3 zI zI zI)) gone0)] (fun (b : Mach) => eMach (b)) (fun (b : Mach) => [some (eMach machine0), some ((zL (z3 zI zI zI)) gone0)])) := by
  unfold g__law_left t__law_left
  exact ss_asg (e := (zL eBar)) (E := fun bars1 => [some (eMach machine0), some ((zL (z3 zI zI zI)) gone0), some ((zL eBar) bars1), none, none, none]) (r_V (r_args_nil) (v_lst (Nat.le_of_ble_eq_true rfl))) rfl (fun _ => rfl) fun bars1 =>
  sx_hoist fun ks2 h_ks2 => ss_fold (s0 := fun _ => none) (e := zI) (fun (c3 : (List Bar)) (s4 : Nat → Option D) => [some (eMach machine0), some ((zL (z3 zI zI zI)) gone0), some ((zL eBar) c3), s4 3, s4 4, s4 5]) (fun (c3 : (List Bar)) (s4 : Nat → Option D) number5 => [some (eMach machine0), some ((zL (z3 zI zI zI)) gone0), some ((zL eBar) c3), some (zI number5), s4 4, s4 5]) (r_rng (r_args (r_V (r_args (r_V (r_args (r_sl rfl) (r_args (r_c) (r_args_nil) rfl) rfl) (p_ixc (e := (zT eBar)) (x := machine0.2.2) rfl)) (r_args_nil) rfl) (p_len (E := (zT eBar)) (xs := machine0.2.2))) (r_args_nil) rfl) (p_rng1 h_ks2)) rfl (fun _ _ _ => rfl) (fun c3 s4 number5 =>
  sx_hoist fun r6 h_r6 => ss_join (fun (c14 : (List Bar)) (s15 : Nat → Option D) => [some (eMach machine0), some ((zL (z3 zI zI zI)) gone0), some ((zL eBar) c14), some (zI number5), s15 4, s15 5]) (r_tr (r_call (r_args (r_sl rfl) (r_args (r_imm (d := zI (number5)) (r_sl rfl) (Im.im (e := zI) (number5))) (r_args (r_sl rfl) (r_args_nil) rfl) rfl) rfl) (s__law_stays  h_r6)) rfl) (fun _ => sx_hoist fun r7 h_r7 => ss_asg (e := (zT eWord)) (E := fun chain8 => [some (eMach machine0), some ((zL (z3 zI zI zI)) gone0), some ((zL eBar) c3), some (zI number5), some ((zT eWord) chain8), s4 5]) (r_V (r_args (r_call (r_args (r_sl rfl) (r_args (r_imm (d := zI (number5)) (r_sl rfl) (Im.im (e := zI) (number5))) (r_args (r_c) (r_args (r_sl rfl) (r_args_nil) rfl) rfl) rfl) rfl) (s__law_unnamed  h_r7)) (r_args_nil) rfl) (p_tuple (E := (zL eWord)) (xs := r7))) rfl (fun _ => rfl) fun chain8 =>
  sx_hoist fun r9 h_r9 => ss_asg (e := (zT eWord)) (E := fun closing10 => [some (eMach machine0), some ((zL (z3 zI zI zI)) gone0), some ((zL eBar) c3), some (zI number5), some ((zT eWord) chain8), some ((zT eWord) closing10)]) (r_V (r_args (r_call (r_args (r_sl rfl) (r_args (r_imm (d := zI (number5)) (r_sl rfl) (Im.im (e := zI) (number5))) (r_args (r_c) (r_args (r_sl rfl) (r_args_nil) rfl) rfl) rfl) rfl) (s__law_unnamed  h_r9)) (r_args_nil) rfl) (p_tuple (E := (zL eWord)) (xs := r9))) rfl (fun _ => rfl) fun closing10 =>
  sx_hoist fun r11 h_r11 => sx_hoist fun r12 h_r12 => ss_app (e := eBar) (E := fun bars13 => [some (eMach machine0), some ((zL (z3 zI zI zI)) gone0), some ((zL eBar) bars13), some (zI number5), some ((zT eWord) chain8), some ((zT eWord) closing10)]) rfl (r_V (r_args (r_V (r_args (r_V (r_args (r_V (r_args (r_sl rfl) (r_args (r_c) (r_args_nil) rfl) rfl) (p_ixc (e := (zT eBar)) (x := machine0.2.2) rfl)) (r_args (r_sl rfl) (r_args_nil) rfl) rfl) (p_ix (E := (zT eBar)) (e := eBar) h_r11)) (r_args (r_c) (r_args_nil) rfl) rfl) (p_ixc (e := zS) (x := r11.1) rfl)) (r_args (r_V (r_args (r_V (r_args (r_V (r_args (r_sl rfl) (r_args (r_c) (r_args_nil) rfl) rfl) (p_ixc (e := (zT eBar)) (x := machine0.2.2) rfl)) (r_args (r_sl rfl) (r_args_nil) rfl) rfl) (p_ix (E := (zT eBar)) (e := eBar) h_r12)) (r_args (r_c) (r_args_nil) rfl) rfl) (p_ixc (e := zS) (x := r12.2.1) rfl)) (r_args (r_imm (d := (zT eWord) (chain8)) (r_sl rfl) (Im.im (e := (zT eWord)) (chain8))) (r_args (r_imm (d := (zT eWord) (closing10)) (r_sl rfl) (Im.im (e := (zT eWord)) (closing10))) (r_args_nil) rfl) rfl) rfl) rfl) (v_tup (Nat.le_of_ble_eq_true rfl))) rfl (fun _ => rfl) fun bars13 =>
  ss_nx ⟨rfl, rfl⟩) (fun _ => ss_nx ⟨rfl, rfl⟩) fun c14 s15 =>
  ss_nx ⟨.inl rfl, rfl⟩) fun c3 s4 =>
  ss_ret (r_V (r_args (r_V (r_args (r_sl rfl) (r_args (r_c) (r_args_nil) rfl) rfl) (p_ixc (e := zS) (x := machine0.1) rfl)) (r_args (r_V (r_args (r_sl rfl) (r_args (r_c) (r_args_nil) rfl) rfl) (p_ixc (e := eLetters) (x := machine0.2.1) rfl)) (r_args (r_V (r_args (r_sl rfl) (r_args_nil) rfl) (p_tuple (E := (zL eBar)) (xs := c3))) (r_args_nil) rfl) rfl) rfl) (v_tup (Nat.le_of_ble_eq_true rfl))) (⟨rfl, rfl⟩)
theorem s__law_left {machine0 : Mach} {gone0 : (List (Int × Int × Int))} {r : Mach} (h : t__law_left machine0 gone0 = some r) : F__law_left [some (eMach machine0), some ((zL (z3 zI zI zI)) gone0)] = some (.ok ((fun (b : Mach) => eMach (b)) r) ((fun (b : Mach) => [some (eMach machine0), some ((zL (z3 zI zI zI)) gone0)]) r)) := by
  unfold F__law_left
  exact fn_sim (V := fun (b : Mach) => eMach (b)) (R := fun (b : Mach) => [some (eMach machine0), some ((zL (z3 zI zI zI)) gone0)]) (by first | rfl | simp [immA, immAt, Im.im]) (m__law_left machine0 gone0) h
def t__law_moved (machine0 : Mach) (gone0 : (List (Int × Int × Int))) (name0 : (Int × Int × Int)) : Option ((Option (Int × Int × Int))) :=
  bnd name0 fun u1 =>
  (if (decide (name0 ∈ gone0)) = true then some true else (t__law_stays machine0 u1.1 gone0).bind fun r2 => some (!r2)).bind fun b3 => if b3 = true then
  some (none : (Option (Int × Int × Int)))
  else
  (rng1 u1.1).bind fun ks4 => (compO (fun (c : Unit) other5 => (t__law_stays machine0 other5 gone0).bind fun r7 => if r7 = true then some ((), some other5) else some ((), none)) ks4 ()).bind fun m8 => bnd ((m8.2).length : Int) fun bar9 =>
  (rng1 u1.2.2).bind fun ks10 => (mapO (fun other11 => (!decide ((u1.1, u1.2.1, other11) ∈ gone0))) (fun other11 => other11) ks10).bind fun m12 => some (bar9, u1.2.1, ((m12).length : Int))
theorem m__law_moved (machine0 : Mach) (gone0 : (List (Int × Int × Int))) (name0 : (Int × Int × Int)) : SimX g__law_moved ([some (eMach machine0), some ((zL (z3 zI zI zI)) gone0), some ((z3 zI zI zI) name0), none, none, none, none, none] : DEnv) (t__law_moved machine0 gone0 name0) (FnK [3, 4, 5, 6] [some (eMach machine0), some ((zL (z3 zI zI zI)) gone0), some ((z3 zI zI zI) name0)] (fun (b : (Option (Int × Int × Int))) => (zO (z3 zI zI zI)) (b)) (fun (b : (Option (Int × Int × Int))) => [some (eMach machine0), some ((zL (z3 zI zI zI)) gone0), some ((z3 zI zI zI) name0)])) := by
  unfold g__law_moved t__law_moved
  exact ss_asgT (e := (z3 zI zI zI)) (E := fun u1 => [some (eMach machine0), some ((zL (z3 zI zI zI)) gone0), some ((z3 zI zI zI) name0), some (zI u1.1), some (zI u1.2.1), some (zI u1.2.2), none, none]) (r_imm (d := (z3 zI zI zI) (name0)) (r_sl rfl) (Im.im (e := (z3 zI zI zI)) (name0))) (fun _ => rfl) fun u1 =>
  sx_blk (fe := cOr (cBl (cV (cArgs [(.sl 2, cSl 2), (.sl 1, cSl 1)]) gIn)) (cNot (cTr (cCall [.sl 0, .own, .sl 1] F__law_stays [] (cArgs [(.sl 0, cSl 0), (.own, cImm (cSl 3)), (.sl 1, cSl 1)]))))) (δe := [some (eMach machine0), some ((zL (z3 zI zI zI)) gone0), some ((z3 zI zI zI) name0), some (zI u1.1), some (zI u1.2.1), some (zI u1.2.2), none, none]) (V := fun (b : Bool) => b) (E := fun (b : Bool) => [some (eMach machine0), some ((zL (z3 zI zI zI)) gone0), some ((z3 zI zI zI) name0), some (zI u1.1), some (zI u1.2.1), some (zI u1.2.2), none, none]) (sx_or (r_bl (r_V (r_args (r_sl rfl) (r_args (r_sl rfl) (r_args_nil) rfl) rfl) (p_in (E := (zL (z3 zI zI zI))) (e := (z3 zI zI zI)) (a := name0) (xs := gone0)))) (sx_hoist fun r2 h_r2 => sx_done (r_not (r_tr (r_call (r_args (r_sl rfl) (r_args (r_imm (d := zI (u1.1)) (r_sl rfl) (Im.im (e := zI) (u1.1))) (r_args (r_sl rfl) (r_args_nil) rfl) rfl) rfl) (s__law_stays  h_r2)) rfl)) ⟨rfl, rfl⟩) ⟨rfl, rfl⟩) fun b3 h_b3 => ss_if (h_b3) (fun _ => ss_assoc (ss_ret (r_c) (⟨rfl, rfl⟩))) (fun _ => ss_pass (sx_hoist fun ks4 h_ks4 => sx_hoist fun m8 h_m8 => ss_asg (e := zI) (E := fun bar9 => [some (eMach machine0), some ((zL (z3 zI zI zI)) gone0), some ((z3 zI zI zI) name0), some (zI u1.1), some (zI u1.2.1), some (zI u1.2.2), some (zI bar9), none]) (r_V (r_args (x_compO (e := zI) (e' := zI) (fun (c : Unit) => [some (eMach machine0), some ((zL (z3 zI zI zI)) gone0), some ((z3 zI zI zI) name0), some (zI u1.1), some (zI u1.2.1), some (zI u1.2.2), none, none]) (fun (c : Unit) other5 => [some (eMach machine0), some ((zL (z3 zI zI zI)) gone0), some ((z3 zI zI zI) name0), some (zI u1.1), some (zI u1.2.1), some (zI u1.2.2), none, some (zI other5)]) h_m8 (r_rng (r_args (r_sl rfl) (r_args_nil) rfl) (p_rng1 h_ks4)) rfl rfl rfl (fun _ _ => rfl) (fun c other5 => sx_hoist fun r7 h_r7 => sx_el (r_tr (r_call (r_args (r_sl rfl) (r_args (r_imm (d := zI (other5)) (r_sl rfl) (Im.im (e := zI) (other5))) (r_args (r_sl rfl) (r_args_nil) rfl) rfl) rfl) (s__law_stays  h_r7)) rfl) (fun _ => sx_done (r_imm (d := zI (other5)) (r_sl rfl) (Im.im (e := zI) (other5))) ⟨rfl, rfl, rfl⟩) ⟨rfl, rfl, rfl⟩)) (r_args_nil) rfl) (p_len (E := (zL zI)) (xs := m8.2))) rfl (fun _ => rfl) fun bar9 =>
  sx_hoist fun ks10 h_ks10 => sx_hoist fun m12 h_m12 => ss_ret (r_V (r_args (r_imm (d := zI (bar9)) (r_sl rfl) (Im.im (e := zI) (bar9))) (r_args (r_imm (d := zI (u1.2.1)) (r_sl rfl) (Im.im (e := zI) (u1.2.1))) (r_args (r_V (r_args (x_comp (e := zI) (e' := zI) (E1 := fun other11 => [some (eMach machine0), some ((zL (z3 zI zI zI)) gone0), some ((z3 zI zI zI) name0), some (zI u1.1), some (zI u1.2.1), some (zI u1.2.2), some (zI bar9), some (zI other11)]) h_m12 (r_rng (r_args (r_sl rfl) (r_args_nil) rfl) (p_rng1 h_ks10)) rfl rfl (fun _ => rfl) (fun _ => rfl) (fun _ => rfl) (fun other11 => r_bl (r_V (r_args (r_V (r_args (r_imm (d := zI (u1.1)) (r_sl rfl) (Im.im (e := zI) (u1.1))) (r_args (r_imm (d := zI (u1.2.1)) (r_sl rfl) (Im.im (e := zI) (u1.2.1))) (r_args (r_imm (d := zI (other11)) (r_sl rfl) (Im.im (e := zI) (other11))) (r_args_nil) rfl) rfl) rfl) (v_tup (Nat.le_of_ble_eq_true rfl))) (r_args (r_sl rfl) (r_args_nil) rfl) rfl) (p_nin (E := (zL (z3 zI zI zI))) (e := (z3 zI zI zI)) (a := (u1.1, u1.2.1, other11)) (xs := gone0)))) (fun other11 => r_imm (d := zI (other11)) (r_sl rfl) (Im.im (e := zI) (other11)))) (r_args_nil) rfl) (p_len (E := (zL zI)) (xs := m12))) (r_args_nil) rfl) rfl) rfl) (v_tup (Nat.le_of_ble_eq_true rfl))) (⟨rfl, rfl⟩)))
theorem s__law_moved {machine0 : Mach} {gone0 : (List (Int × Int × Int))} {name0 : (Int × Int × Int)} {r : (Option (Int × Int × Int))} (h : t__law_moved machine0 gone0 name0 = some r) : F__law_moved [some (eMach machine0), some ((zL (z3 zI zI zI)) gone0), some ((z3 zI zI zI) name0)] = some (.ok ((fun (b : (Option (Int × Int × Int))) => (zO (z3 zI zI zI)) (b)) r) ((fun (b : (Option (Int × Int × Int))) => [some (eMach machine0), some ((zL (z3 zI zI zI)) gone0), some ((z3 zI zI zI) name0)]) r)) := by
  unfold F__law_moved
  exact fn_sim (V := fun (b : (Option (Int × Int × Int))) => (zO (z3 zI zI zI)) (b)) (R := fun (b : (Option (Int × Int × Int))) => [some (eMach machine0), some ((zL (z3 zI zI zI)) gone0), some ((z3 zI zI zI) name0)]) (by first | rfl | simp [immA, immAt, Im.im]) (m__law_moved machine0 gone0 name0) h
def t__law_gone (d0 : DSt) (machine0 : Mach) : Option ((List (Int × Int × Int)) × DSt) :=
  (t__law_named machine0).bind fun r1 => bnd r1 fun names2 =>
  (t__law_draw d0 (8 : Int)).bind fun r3 => bnd r3.1 fun way4 =>
  if ((decide (((names2).length : Int) = (0 : Int))) || (decide (way4 = (0 : Int)))) = true then
  some (([] : List (Int × Int × Int)), r3.2)
  else
  (t__law_pick r3.2 names2).bind fun r5 => bnd r5.1 fun one6 =>
  if (decide (way4 = (1 : Int))) = true then
  some (names2, r5.2)
  else
  if (decide (way4 = (2 : Int))) = true then
  some ([one6], r5.2)
  else
  if (decide (way4 = (3 : Int))) = true then
  (mapO (fun name7 => (!decide (name7 = one6))) (fun name7 => name7) names2).bind fun m8 => some (m8, r5.2)
  else
  if (decide (way4 = (4 : Int))) = true then
  (mapO (fun name9 => (decide ((name9.1, name9.2.1) = (one6.1, one6.2.1)))) (fun name9 => name9) names2).bind fun m10 => some (m10, r5.2)
  else
  if (decide (way4 = (5 : Int))) = true then
  (mapO (fun name11 => ((decide (name11.1 = one6.1)) && (!decide (name11 = one6)))) (fun name11 => name11) names2).bind fun m12 => some (m12, r5.2)
  else
  (compO (fun (c : DSt) name13 => (t__law_draw c (3 : Int)).bind fun r15 => if (decide ((0 : Int) < r15.1)) = true then some (r15.2, some name13) else some (r15.2, none)) names2 r5.2).bind fun m16 => some (m16.2, m16.1)
theorem m__law_gone (d0 : DSt) (machine0 : Mach) : SimX g__law_gone ([some (dst d0), some (eMach machine0), none, none, none, none] : DEnv) (t__law_gone d0 machine0) (FnK [2, 3, 4] [some (dst d0), some (eMach machine0)] (fun (b : (List (Int × Int × Int)) × DSt) => (zL (z3 zI zI zI)) (b.1)) (fun (b : (List (Int × Int × Int)) × DSt) => [some (dst (b.2)), some (eMach machine0)])) := by
  unfold g__law_gone t__law_gone
  exact sx_hoist fun r1 h_r1 => ss_asg (e := (zL (z3 zI zI zI))) (E := fun names2 => [some (dst d0), some (eMach machine0), some ((zL (z3 zI zI zI)) names2), none, none, none]) (r_call (r_args (r_sl rfl) (r_args_nil) rfl) (s__law_named  h_r1)) rfl (fun _ => rfl) fun names2 =>
  sx_hoist fun r3 h_r3 => ss_asg (e := zI) (E := fun way4 => [some (dst r3.2), some (eMach machine0), some ((zL (z3 zI zI zI)) names2), some (zI way4), none, none]) (r_call (r_args (r_sl rfl) (r_args (r_c) (r_args_nil) rfl) rfl) (s__law_draw  h_r3)) rfl (fun _ => rfl) fun way4 =>
  ss_if (x_or (r_bl (r_V (r_args (r_V (r_args (r_sl rfl) (r_args_nil) rfl) (p_len (E := (zL (z3 zI zI zI))) (xs := names2))) (r_args (r_c) (r_args_nil) rfl) rfl) (p_eq (e := zI) (a := ((names2).length : Int)) (b := (0 : Int))))) (r_bl (r_V (r_args (r_sl rfl) (r_args (r_c) (r_args_nil) rfl) rfl) (p_eq (e := zI) (a := way4) (b := (0 : Int)))))) (fun _ => ss_assoc (ss_ret (r_V (r_args_nil) (v_lst (Nat.le_of_ble_eq_true rfl))) (⟨rfl, rfl⟩))) (fun _ => ss_pass (sx_hoist fun r5 h_r5 => ss_asg (e := (z3 zI zI zI)) (E := fun one6 => [some (dst r5.2), some (eMach machine0), some ((zL (z3 zI zI zI)) names2), some (zI way4), some ((z3 zI zI zI) one6), none]) (r_call (r_args (r_sl rfl) (r_args (r_sl rfl) (r_args_nil) rfl) rfl) (s__law_pick (E := (zL (z3 zI zI zI))) h_r5)) rfl (fun _ => rfl) fun one6 =>
  ss_if (r_bl (r_V (r_args (r_sl rfl) (r_args (r_c) (r_args_nil) rfl) rfl) (p_eq (e := zI) (a := way4) (b := (1 : Int))))) (fun _ => ss_assoc (ss_ret (r_mv rfl) (⟨rfl, rfl⟩))) (fun _ => ss_pass (ss_if (r_bl (r_V (r_args (r_sl rfl) (r_args (r_c) (r_args_nil) rfl) rfl) (p_eq (e := zI) (a := way4) (b := (2 : Int))))) (fun _ => ss_assoc (ss_ret (r_V (r_args (r_imm (d := (z3 zI zI zI) (one6)) (r_sl rfl) (Im.im (e := (z3 zI zI zI)) (one6))) (r_args_nil) rfl) (v_lst (Nat.le_of_ble_eq_true rfl))) (⟨rfl, rfl⟩))) (fun _ => ss_pass (ss_if (r_bl (r_V (r_args (r_sl rfl) (r_args (r_c) (r_args_nil) rfl) rfl) (p_eq (e := zI) (a := way4) (b := (3 : Int))))) (fun _ => sx_hoist fun m8 h_m8 => ss_assoc (ss_ret (x_comp (e := (z3 zI zI zI)) (e' := (z3 zI zI zI)) (E1 := fun name7 => [some (dst r5.2), some (eMach machine0), some ((zL (z3 zI zI zI)) names2), some (zI way4), some ((z3 zI zI zI) one6), some ((z3 zI zI zI) name7)]) h_m8 (r_items (r_sl rfl) (p_items (E := (zL (z3 zI zI zI))) (xs := names2))) rfl rfl (fun _ => rfl) (fun _ => rfl) (fun _ => rfl) (fun name7 => r_bl (r_V (r_args (r_sl rfl) (r_args (r_sl rfl) (r_args_nil) rfl) rfl) (p_ne (e := (z3 zI zI zI)) (a := name7) (b := one6)))) (fun name7 => r_imm (d := (z3 zI zI zI) (name7)) (r_sl rfl) (Im.im (e := (z3 zI zI zI)) (name7)))) (⟨rfl, rfl⟩))) (fun _ => ss_pass (ss_if (r_bl (r_V (r_args (r_sl rfl) (r_args (r_c) (r_args_nil) rfl) rfl) (p_eq (e := zI) (a := way4) (b := (4 : Int))))) (fun _ => sx_hoist fun m10 h_m10 => ss_assoc (ss_ret (x_comp (e := (z3 zI zI zI)) (e' := (z3 zI zI zI)) (E1 := fun name9 => [some (dst r5.2), some (eMach machine0), some ((zL (z3 zI zI zI)) names2), some (zI way4), some ((z3 zI zI zI) one6), some ((z3 zI zI zI) name9)]) h_m10 (r_items (r_sl rfl) (p_items (E := (zL (z3 zI zI zI))) (xs := names2))) rfl rfl (fun _ => rfl) (fun _ => rfl) (fun _ => rfl) (fun name9 => r_bl (r_V (r_args (r_V (r_args (r_sl rfl) (r_args (r_c) (r_args_nil) rfl) rfl) rfl) (r_args (r_V (r_args (r_sl rfl) (r_args (r_c) (r_args_nil) rfl) rfl) rfl) (r_args_nil) rfl) rfl) (p_eq (e := (z2 zI zI)) (a := (name9.1, name9.2.1)) (b := (one6.1, one6.2.1))))) (fun name9 => r_imm (d := (z3 zI zI zI) (name9)) (r_sl rfl) (Im.im (e := (z3 zI zI zI)) (name9)))) (⟨rfl, rfl⟩))) (fun _ => ss_pass (ss_if (r_bl (r_V (r_args (r_sl rfl) (r_args (r_c) (r_args_nil) rfl) rfl) (p_eq (e := zI) (a := way4) (b := (5 : Int))))) (fun _ => sx_hoist fun m12 h_m12 => ss_assoc (ss_ret (x_comp (e := (z3 zI zI zI)) (e' := (z3 zI zI zI)) (E1 := fun name11 => [some (dst r5.2), some (eMach machine0), some ((zL (z3 zI zI zI)) names2), some (zI way4), some ((z3 zI zI zI) one6), some ((z3 zI zI zI) name11)]) h_m12 (r_items (r_sl rfl) (p_items (E := (zL (z3 zI zI zI))) (xs := names2))) rfl rfl (fun _ => rfl) (fun _ => rfl) (fun _ => rfl) (fun name11 => x_and (r_bl (r_V (r_args (r_V (r_args (r_sl rfl) (r_args (r_c) (r_args_nil) rfl) rfl) (p_ixc (e := zI) (x := name11.1) rfl)) (r_args (r_V (r_args (r_sl rfl) (r_args (r_c) (r_args_nil) rfl) rfl) (p_ixc (e := zI) (x := one6.1) rfl)) (r_args_nil) rfl) rfl) (p_eq (e := zI) (a := name11.1) (b := one6.1)))) (r_bl (r_V (r_args (r_sl rfl) (r_args (r_sl rfl) (r_args_nil) rfl) rfl) (p_ne (e := (z3 zI zI zI)) (a := name11) (b := one6))))) (fun name11 => r_imm (d := (z3 zI zI zI) (name11)) (r_sl rfl) (Im.im (e := (z3 zI zI zI)) (name11)))) (⟨rfl, rfl⟩))) (fun _ => ss_pass (sx_hoist fun m16 h_m16 => ss_ret (x_compO (e := (z3 zI zI zI)) (e' := (z3 zI zI zI)) (fun (c : DSt) => [some (dst c), some (eMach machine0), some ((zL (z3 zI zI zI)) names2), some (zI way4), some ((z3 zI zI zI) one6), none]) (fun (c : DSt) name13 => [some (dst c), some (eMach machine0), some ((zL (z3 zI zI zI)) names2), some (zI way4), some ((z3 zI zI zI) one6), some ((z3 zI zI zI) name13)]) h_m16 (r_items (r_sl rfl) (p_items (E := (zL (z3 zI zI zI))) (xs := names2))) rfl rfl rfl (fun _ _ => rfl) (fun c name13 => sx_hoist fun r15 h_r15 => sx_el (r_bl (r_V (r_args (r_call (r_args (r_sl rfl) (r_args (r_c) (r_args_nil) rfl) rfl) (s__law_draw  h_r15)) (r_args (r_c) (r_args_nil) rfl) rfl) rfl)) (fun _ => sx_done (r_imm (d := (z3 zI zI zI) (name13)) (r_sl rfl) (Im.im (e := (z3 zI zI zI)) (name13))) ⟨rfl, rfl, rfl⟩) ⟨rfl, rfl, rfl⟩)) (⟨rfl, rfl⟩)))))))))))))
theorem s__law_gone {d0 : DSt} {machine0 : Mach} {r : (List (Int × Int × Int)) × DSt} (h : t__law_gone d0 machine0 = some r) : F__law_gone [some (dst d0), some (eMach machine0)] = some (.ok ((fun (b : (List (Int × Int × Int)) × DSt) => (zL (z3 zI zI zI)) (b.1)) r) ((fun (b : (List (Int × Int × Int)) × DSt) => [some (dst (b.2)), some (eMach machine0)]) r)) := by
  unfold F__law_gone
  exact fn_sim (V := fun (b : (List (Int × Int × Int)) × DSt) => (zL (z3 zI zI zI)) (b.1)) (R := fun (b : (List (Int × Int × Int)) × DSt) => [some (dst (b.2)), some (eMach machine0)]) (by first | rfl | simp [immA, immAt, Im.im]) (m__law_gone d0 machine0) h
def t_law (d : DSt) : Option (Bool) :=
  (t__law_broad d).bind fun r1 => bnd r1.1 fun first2 =>
  (t__law_broad r1.2).bind fun r3 => bnd r3.1 fun second4 =>
  (loopT (fun (c5 : DSt) machine7 =>
  (t_word_names machine7).bind fun r8 => (t__law_named machine7).bind fun r9 => (t__law_same (mkID (zT (z3 zI zI zI)) r8) (mkID (zT (z3 zI zI zI)) r9)).bind fun r10 => if (!r10) = true then
  some (.rt false)
  else
  (t_drop_words machine7 ([] : List (Int × Int × Int))).bind fun r11 => (t__law_same (mkID eMach r11) (mkID eMach machine7)).bind fun r12 => if (!r12) = true then
  some (.rt false)
  else
  (t__law_named machine7).bind fun r13 => (t_drop_words machine7 r13).bind fun r14 => (t__law_same (mkID eMach r14) (mkID (z3 zS eLetters zX) (machine7.1, machine7.2.1, (mkID (zT zI) ([] : List Int))))).bind fun r15 => if (!r15) = true then
  some (.rt false)
  else
  (t__law_gone c5 machine7).bind fun r16 => bnd r16.1 fun gone17 =>
  (t__law_left machine7 gone17).bind fun r18 => bnd r18 fun due19 =>
  (t__law_shuffled r16.2 gone17).bind fun r20 => (t_drop_words machine7 r20.1).bind fun r21 => bnd r21 fun told22 =>
  (t__law_same (mkID eMach told22) (mkID eMach due19)).bind fun r23 => (if (!r23) = true then some true else (t_word_names told22).bind fun r24 => (t__law_named due19).bind fun r25 => (t__law_same (mkID (zT (z3 zI zI zI)) r24) (mkID (zT (z3 zI zI zI)) r25)).bind fun r26 => some (!r26)).bind fun b27 => if b27 = true then
  some (.rt false)
  else
  (t__law_gone r20.2 machine7).bind fun r28 => bnd r28.1 fun more29 =>
  (t__law_shuffled r28.2 more29).bind fun r30 => (compO (fun (c : DSt) name31 => (t__law_moved machine7 gone17 name31).bind fun r33 => some (c, some r33)) r30.1 r30.2).bind fun m34 => bnd m34.2 fun moved35 =>
  (mapO (fun name36 => (!decide (name36 ∈ gone17))) (fun name36 => name36) more29).bind fun m37 => (addO gone17 m37).bind fun r38 => (t__law_left machine7 r38).bind fun r39 => bnd r39 fun both40 =>
  (compO (fun (c : Unit) name41 => if (name41).isSome = true then (name41).bind fun v43 => some ((), some v43) else some ((), none)) moved35 ()).bind fun m44 => (t_drop_words told22 m44.2).bind fun r45 => (t__law_same (mkID eMach r45) (mkID eMach both40)).bind fun r46 => if (!r46) = true then
  some (.rt false)
  else
  (mapO (fun name47 => (!decide (name47 ∈ gone17))) (fun name47 => name47) more29).bind fun m48 => (addO gone17 m48).bind fun r49 => (t_drop_words machine7 r49).bind fun r50 => (t__law_same (mkID eMach r50) (mkID eMach both40)).bind fun r51 => if (!r51) = true then
  some (.rt false)
  else
  some (.nx m34.1)) [first2, second4, first2] r3.2).bind (Lp.out (fun c5 =>
  some true) some)
theorem m_law (d : DSt) : SimX g_law ([none, some (dst d), none, none, none, none, none, none, none, none, none, none]) (t_law d) (fun b fl _ => fl = .rt (zB b)) := by
  unfold g_law t_law
  exact sx_hoist fun r1 h_r1 => ss_asg (e := eMach) (E := fun first2 => [none, some (dst r1.2), some (eMach first2), none, none, none, none, none, none, none, none, none]) (r_call (r_args (r_sl rfl) (r_args_nil) rfl) (s__law_broad  h_r1)) rfl (fun _ => rfl) fun first2 =>
  sx_hoist fun r3 h_r3 => ss_asg (e := eMach) (E := fun second4 => [none, some (dst r3.2), some (eMach first2), some (eMach second4), none, none, none, none, none, none, none, none]) (r_call (r_args (r_sl rfl) (r_args_nil) rfl) (s__law_broad  h_r3)) rfl (fun _ => rfl) fun second4 =>
  ss_loop (e := eMach) (fun (c5 : DSt) (s6 : Nat → Option D) => [none, some (dst c5), some (eMach first2), some (eMach second4), s6 4, s6 5, s6 6, s6 7, s6 8, s6 9, s6 10, none]) (fun (c5 : DSt) (s6 : Nat → Option D) machine7 => [none, some (dst c5), some (eMach first2), some (eMach second4), some (eMach machine7), s6 5, s6 6, s6 7, s6 8, s6 9, s6 10, none]) (r_items (r_V (r_args (r_imm (d := eMach (first2)) (r_sl rfl) (Im.im (e := eMach) (first2))) (r_args (r_imm (d := eMach (second4)) (r_sl rfl) (Im.im (e := eMach) (second4))) (r_args (r_imm (d := eMach (first2)) (r_sl rfl) (Im.im (e := eMach) (first2))) (r_args_nil) rfl) rfl) rfl) (v_lst (Nat.le_of_ble_eq_true rfl))) (p_items (E := (zL eMach)) (xs := [first2, second4, first2]))) rfl (fun _ _ _ => rfl) (fun c5 s6 machine7 =>
  sx_hoist fun r8 h_r8 => sx_hoist fun r9 h_r9 => sx_hoist fun r10 h_r10 => ss_if (r_not (r_tr (r_call (r_args (r_call (r_args (r_imm (d := eMach (machine7)) (r_sl rfl) (Im.im (e := eMach) (machine7))) (r_args_nil) rfl) (s_word_names  h_r8)) (r_args (r_V (r_args (r_call (r_args (r_imm (d := eMach (machine7)) (r_sl rfl) (Im.im (e := eMach) (machine7))) (r_args_nil) rfl) (s__law_named  h_r9)) (r_args_nil) rfl) (p_tuple (E := (zL (z3 zI zI zI))) (xs := r9))) (r_args_nil) rfl) rfl) (s__law_same  h_r10)) rfl)) (fun _ => ss_assoc (ss_ret (r_c) (⟨⟨_, rfl⟩, rfl⟩))) (fun _ => ss_pass (sx_hoist fun r11 h_r11 => sx_hoist fun r12 h_r12 => ss_if (r_not (r_tr (r_call (r_args (r_call (r_args (r_imm (d := eMach (machine7)) (r_sl rfl) (Im.im (e := eMach) (machine7))) (r_args (r_V (r_args_nil) (v_tup (Nat.le_of_ble_eq_true rfl))) (r_args_nil) rfl) rfl) (s_drop_words  h_r11)) (r_args (r_imm (d := eMach (machine7)) (r_sl rfl) (Im.im (e := eMach) (machine7))) (r_args_nil) rfl) rfl) (s__law_same  h_r12)) rfl)) (fun _ => ss_assoc (ss_ret (r_c) (⟨⟨_, rfl⟩, rfl⟩))) (fun _ => ss_pass (sx_hoist fun r13 h_r13 => sx_hoist fun r14 h_r14 => sx_hoist fun r15 h_r15 => ss_if (r_not (r_tr (r_call (r_args (r_call (r_args (r_imm (d := eMach (machine7)) (r_sl rfl) (Im.im (e := eMach) (machine7))) (r_args (r_V (r_args (r_call (r_args (r_imm (d := eMach (machine7)) (r_sl rfl) (Im.im (e := eMach) (machine7))) (r_args_nil) rfl) (s__law_named  h_r13)) (r_args_nil) rfl) (p_tuple (E := (zL (z3 zI zI zI))) (xs := r13))) (r_args_nil) rfl) rfl) (s_drop_words  h_r14)) (r_args (r_V (r_args (r_V (r_args (r_sl rfl) (r_args (r_c) (r_args_nil) rfl) rfl) (p_ixc (e := zS) (x := machine7.1) rfl)) (r_args (r_V (r_args (r_sl rfl) (r_args (r_c) (r_args_nil) rfl) rfl) (p_ixc (e := eLetters) (x := machine7.2.1) rfl)) (r_args (r_V (r_args_nil) (v_tup (Nat.le_of_ble_eq_true rfl))) (r_args_nil) rfl) rfl) rfl) (v_tup (Nat.le_of_ble_eq_true rfl))) (r_args_nil) rfl) rfl) (s__law_same  h_r15)) rfl)) (fun _ => ss_assoc (ss_ret (r_c) (⟨⟨_, rfl⟩, rfl⟩))) (fun _ => ss_pass (sx_hoist fun r16 h_r16 => ss_asg (e := (zL (z3 zI zI zI))) (E := fun gone17 => [none, some (dst r16.2), some (eMach first2), some (eMach second4), some (eMach machine7), some ((zL (z3 zI zI zI)) gone17), s6 6, s6 7, s6 8, s6 9, s6 10, none]) (r_call (r_args (r_sl rfl) (r_args (r_imm (d := eMach (machine7)) (r_sl rfl) (Im.im (e := eMach) (machine7))) (r_args_nil) rfl) rfl) (s__law_gone  h_r16)) rfl (fun _ => rfl) fun gone17 =>
  sx_hoist fun r18 h_r18 => ss_asg (e := eMach) (E := fun due19 => [none, some (dst r16.2), some (eMach first2), some (eMach second4), some (eMach machine7), some ((zL (z3 zI zI zI)) gone17), some (eMach due19), s6 7, s6 8, s6 9, s6 10, none]) (r_call (r_args (r_imm (d := eMach (machine7)) (r_sl rfl) (Im.im (e := eMach) (machine7))) (r_args (r_sl rfl) (r_args_nil) rfl) rfl) (s__law_left  h_r18)) rfl (fun _ => rfl) fun due19 =>
  sx_hoist fun r20 h_r20 => sx_hoist fun r21 h_r21 => ss_asg (e := eMach) (E := fun told22 => [none, some (dst r20.2), some (eMach first2), some (eMach second4), some (eMach machine7), some ((zL (z3 zI zI zI)) gone17), some (eMach due19), some (eMach told22), s6 8, s6 9, s6 10, none]) (r_call (r_args (r_imm (d := eMach (machine7)) (r_sl rfl) (Im.im (e := eMach) (machine7))) (r_args (r_V (r_args (r_call (r_args (r_sl rfl) (r_args (r_sl rfl) (r_args_nil) rfl) rfl) (s__law_shuffled (E := (zL (z3 zI zI zI))) h_r20)) (r_args_nil) rfl) (p_tuple (E := (zL (z3 zI zI zI))) (xs := r20.1))) (r_args_nil) rfl) rfl) (s_drop_words  h_r21)) rfl (fun _ => rfl) fun told22 =>
  sx_hoist fun r23 h_r23 => sx_blk (fe := cOr (cNot (cTr (cCall [.own, .own] (F__law_same 12) [] (cArgs [(.own, cImm (cSl 7)), (.own, cImm (cSl 6))])))) (cNot (cTr (cCall [.own, .own] (F__law_same 12) [] (cArgs [(.own, cCall [.own] F_word_names [] (cArgs [(.own, cImm (cSl 7))])), (.own, cV (cArgs [(.own, cCall [.own] F__law_named [] (cArgs [(.own, cImm (cSl 6))]))]) gTuple)]))))) (δe := [none, some (dst r20.2), some (eMach first2), some (eMach second4), some (eMach machine7), some ((zL (z3 zI zI zI)) gone17), some (eMach due19), some (eMach told22), s6 8, s6 9, s6 10, none]) (V := fun (b : Bool) => b) (E := fun (b : Bool) => [none, some (dst r20.2), some (eMach first2), some (eMach second4), some (eMach machine7), some ((zL (z3 zI zI zI)) gone17), some (eMach due19), some (eMach told22), s6 8, s6 9, s6 10, none]) (sx_or (r_not (r_tr (r_call (r_args (r_imm (d := eMach (told22)) (r_sl rfl) (Im.im (e := eMach) (told22))) (r_args (r_imm (d := eMach (due19)) (r_sl rfl) (Im.im (e := eMach) (due19))) (r_args_nil) rfl) rfl) (s__law_same  h_r23)) rfl)) (sx_hoist fun r24 h_r24 => sx_hoist fun r25 h_r25 => sx_hoist fun r26 h_r26 => sx_done (r_not (r_tr (r_call (r_args (r_call (r_args (r_imm (d := eMach (told22)) (r_sl rfl) (Im.im (e := eMach) (told22))) (r_args_nil) rfl) (s_word_names  h_r24)) (r_args (r_V (r_args (r_call (r_args (r_imm (d := eMach (due19)) (r_sl rfl) (Im.im (e := eMach) (due19))) (r_args_nil) rfl) (s__law_named  h_r25)) (r_args_nil) rfl) (p_tuple (E := (zL (z3 zI zI zI))) (xs := r25))) (r_args_nil) rfl) rfl) (s__law_same  h_r26)) rfl)) ⟨rfl, rfl⟩) ⟨rfl, rfl⟩) fun b27 h_b27 => ss_if (h_b27) (fun _ => ss_assoc (ss_ret (r_c) (⟨⟨_, rfl⟩, rfl⟩))) (fun _ => ss_pass (sx_hoist fun r28 h_r28 => ss_asg (e := (zL (z3 zI zI zI))) (E := fun more29 => [none, some (dst r28.2), some (eMach first2), some (eMach second4), some (eMach machine7), some ((zL (z3 zI zI zI)) gone17), some (eMach due19), some (eMach told22), some ((zL (z3 zI zI zI)) more29), s6 9, s6 10, none]) (r_call (r_args (r_sl rfl) (r_args (r_imm (d := eMach (machine7)) (r_sl rfl) (Im.im (e := eMach) (machine7))) (r_args_nil) rfl) rfl) (s__law_gone  h_r28)) rfl (fun _ => rfl) fun more29 =>
  sx_hoist fun r30 h_r30 => sx_hoist fun m34 h_m34 => ss_asg (e := (zL (zO (z3 zI zI zI)))) (E := fun moved35 => [none, some (dst m34.1), some (eMach first2), some (eMach second4), some (eMach machine7), some ((zL (z3 zI zI zI)) gone17), some (eMach due19), some (eMach told22), some ((zL (z3 zI zI zI)) more29), some ((zL (zO (z3 zI zI zI))) moved35), s6 10, none]) (x_compO (e := (z3 zI zI zI)) (e' := (zO (z3 zI zI zI))) (fun (c : DSt) => [none, some (dst c), some (eMach first2), some (eMach second4), some (eMach machine7), some ((zL (z3 zI zI zI)) gone17), some (eMach due19), some (eMach told22), some ((zL (z3 zI zI zI)) more29), s6 9, s6 10, none]) (fun (c : DSt) name31 => [none, some (dst c), some (eMach first2), some (eMach second4), some (eMach machine7), some ((zL (z3 zI zI zI)) gone17), some (eMach due19), some (eMach told22), some ((zL (z3 zI zI zI)) more29), s6 9, s6 10, some ((z3 zI zI zI) name31)]) h_m34 (r_items (r_call (r_args (r_sl rfl) (r_args (r_sl rfl) (r_args_nil) rfl) rfl) (s__law_shuffled (E := (zL (z3 zI zI zI))) h_r30)) (p_items (E := (zL (z3 zI zI zI))) (xs := r30.1))) rfl rfl rfl (fun _ _ => rfl) (fun c name31 => sx_el0 (sx_hoist fun r33 h_r33 => sx_done (r_call (r_args (r_imm (d := eMach (machine7)) (r_sl rfl) (Im.im (e := eMach) (machine7))) (r_args (r_sl rfl) (r_args (r_imm (d := (z3 zI zI zI) (name31)) (r_sl rfl) (Im.im (e := (z3 zI zI zI)) (name31))) (r_args_nil) rfl) rfl) rfl) (s__law_moved  h_r33)) ⟨rfl, rfl, rfl⟩))) rfl (fun _ => rfl) fun moved35 =>
  sx_hoist fun m37 h_m37 => sx_hoist fun r38 h_r38 => sx_hoist fun r39 h_r39 => ss_asg (e := eMach) (E := fun both40 => [none, some (dst m34.1), some (eMach first2), some (eMach second4), some (eMach machine7), some ((zL (z3 zI zI zI)) gone17), some (eMach due19), some (eMach told22), some ((zL (z3 zI zI zI)) more29), some ((zL (zO (z3 zI zI zI))) moved35), some (eMach both40), none]) (r_call (r_args (r_imm (d := eMach (machine7)) (r_sl rfl) (Im.im (e := eMach) (machine7))) (r_args (r_V (r_args (r_sl rfl) (r_args (x_comp (e := (z3 zI zI zI)) (e' := (z3 zI zI zI)) (E1 := fun name36 => [none, some (dst m34.1), some (eMach first2), some (eMach second4), some (eMach machine7), some ((zL (z3 zI zI zI)) gone17), some (eMach due19), some (eMach told22), some ((zL (z3 zI zI zI)) more29), some ((zL (zO (z3 zI zI zI))) moved35), s6 10, some ((z3 zI zI zI) name36)]) h_m37 (r_items (r_sl rfl) (p_items (E := (zL (z3 zI zI zI))) (xs := more29))) rfl rfl (fun _ => rfl) (fun _ => rfl) (fun _ => rfl) (fun name36 => r_bl (r_V (r_args (r_sl rfl) (r_args (r_sl rfl) (r_args_nil) rfl) rfl) (p_nin (E := (zL (z3 zI zI zI))) (e := (z3 zI zI zI)) (a := name36) (xs := gone17)))) (fun name36 => r_imm (d := (z3 zI zI zI) (name36)) (r_sl rfl) (Im.im (e := (z3 zI zI zI)) (name36)))) (r_args_nil) rfl) rfl) (p_addL (e := (z3 zI zI zI)) h_r38)) (r_args_nil) rfl) rfl) (s__law_left  h_r39)) rfl (fun _ => rfl) fun both40 =>
  sx_hoist fun m44 h_m44 => sx_hoist fun r45 h_r45 => sx_hoist fun r46 h_r46 => ss_if (r_not (r_tr (r_call (r_args (r_call (r_args (r_imm (d := eMach (told22)) (r_sl rfl) (Im.im (e := eMach) (told22))) (r_args (r_V (r_args (x_compO (e := (zO (z3 zI zI zI))) (e' := (z3 zI zI zI)) (fun (c : Unit) => [none, some (dst m34.1), some (eMach first2), some (eMach second4), some (eMach machine7), some ((zL (z3 zI zI zI)) gone17), some (eMach due19), some (eMach told22), some ((zL (z3 zI zI zI)) more29), some ((zL (zO (z3 zI zI zI))) moved35), some (eMach both40), none]) (fun (c : Unit) name41 => [none, some (dst m34.1), some (eMach first2), some (eMach second4), some (eMach machine7), some ((zL (z3 zI zI zI)) gone17), some (eMach due19), some (eMach told22), some ((zL (z3 zI zI zI)) more29), some ((zL (zO (z3 zI zI zI))) moved35), some (eMach both40), some ((zO (z3 zI zI zI)) name41)]) h_m44 (r_items (r_sl rfl) (p_items (E := (zL (zO (z3 zI zI zI)))) (xs := moved35))) rfl rfl rfl (fun _ _ => rfl) (fun c name41 => sx_el (x_notN (e := (z3 zI zI zI)) (r_sl rfl)) (fun _ => sx_hoist fun v43 h_v43 => sx_done (r_imm (d := (z3 zI zI zI) (v43)) (x_un (e := (z3 zI zI zI)) h_v43 (r_sl rfl)) (Im.im (e := (z3 zI zI zI)) (v43))) ⟨rfl, rfl, rfl⟩) ⟨rfl, rfl, rfl⟩)) (r_args_nil) rfl) (p_tuple (E := (zL (z3 zI zI zI))) (xs := m44.2))) (r_args_nil) rfl) rfl) (s_drop_words  h_r45)) (r_args (r_imm (d := eMach (both40)) (r_sl rfl) (Im.im (e := eMach) (both40))) (r_args_nil) rfl) rfl) (s__law_same  h_r46)) rfl)) (fun _ => ss_assoc (ss_ret (r_c) (⟨⟨_, rfl⟩, rfl⟩))) (fun _ => ss_pass (sx_hoist fun m48 h_m48 => sx_hoist fun r49 h_r49 => sx_hoist fun r50 h_r50 => sx_hoist fun r51 h_r51 => ss_if (r_not (r_tr (r_call (r_args (r_call (r_args (r_imm (d := eMach (machine7)) (r_sl rfl) (Im.im (e := eMach) (machine7))) (r_args (r_V (r_args (r_V (r_args (r_sl rfl) (r_args (x_comp (e := (z3 zI zI zI)) (e' := (z3 zI zI zI)) (E1 := fun name47 => [none, some (dst m34.1), some (eMach first2), some (eMach second4), some (eMach machine7), some ((zL (z3 zI zI zI)) gone17), some (eMach due19), some (eMach told22), some ((zL (z3 zI zI zI)) more29), some ((zL (zO (z3 zI zI zI))) moved35), some (eMach both40), some ((z3 zI zI zI) name47)]) h_m48 (r_items (r_sl rfl) (p_items (E := (zL (z3 zI zI zI))) (xs := more29))) rfl rfl (fun _ => rfl) (fun _ => rfl) (fun _ => rfl) (fun name47 => r_bl (r_V (r_args (r_sl rfl) (r_args (r_sl rfl) (r_args_nil) rfl) rfl) (p_nin (E := (zL (z3 zI zI zI))) (e := (z3 zI zI zI)) (a := name47) (xs := gone17)))) (fun name47 => r_imm (d := (z3 zI zI zI) (name47)) (r_sl rfl) (Im.im (e := (z3 zI zI zI)) (name47)))) (r_args_nil) rfl) rfl) (p_addL (e := (z3 zI zI zI)) h_r49)) (r_args_nil) rfl) (p_tuple (E := (zL (z3 zI zI zI))) (xs := r49))) (r_args_nil) rfl) rfl) (s_drop_words  h_r50)) (r_args (r_imm (d := eMach (both40)) (r_sl rfl) (Im.im (e := eMach) (both40))) (r_args_nil) rfl) rfl) (s__law_same  h_r51)) rfl)) (fun _ => ss_assoc (ss_ret (r_c) (⟨⟨_, rfl⟩, rfl⟩))) (fun _ => ss_pass (ss_nx ⟨.inl rfl, rfl⟩))))))))))))) fun c5 s6 =>
  ss_ret (r_c) (rfl)
theorem law_ok (h : ∀ d, t_law d = some true) : ∀ ns : List Int, ns.length ≤ 63 → wp (g_law (none :: some (dst ⟨ns, 0, 0, 7⟩) :: List.replicate 10 none)) fun fl _ => fl = .rt (.bool true) := fun ns _ => by
  obtain ⟨fl, δ', e1, e2⟩ := m_law ⟨ns, 0, 0, 7⟩ true (h _)
  exact ⟨fl, δ', e1, e2⟩
end DL
set_option maxHeartbeats 1000000
/-! P1: what a typed mirror gives, in the form of a weakest condition. -/
namespace DL
open PySem PySem.Spec PyProof.Rows L2
/-- t gives something with P -/
def Gv {α : Type} (t : Option α) (P : α → Prop) : Prop := ∃ a, t = some a ∧ P a
section
variable {α β γ ρ τ : Type}
theorem Gv.ret {a : α} {P : α → Prop} (h : P a) : Gv (some a) P := ⟨a, rfl, h⟩
theorem Gv.bind {t : Option α} {k : α → Option β} {P : β → Prop} (h : Gv t fun a => Gv (k a) P) : Gv (t.bind k) P := by
  obtain ⟨a, rfl, b, e, h⟩ := h
  exact ⟨b, e, h⟩
theorem Gv.cut {t : Option α} {k : α → Option β} {P : β → Prop} (R : α → Prop) (h : Gv t R) (h2 : ∀ a, R a → Gv (k a) P) : Gv (t.bind k) P := let ⟨a, e, r⟩ := h; Gv.bind ⟨a, e, h2 a r⟩
theorem Gv.bnd {a : α} {k : α → Option β} {P : β → Prop} (h : Gv (k a) P) : Gv (bnd a k) P := h
theorem Gv.ite {c : Bool} {t u : Option α} {P : α → Prop} (h1 : c = true → Gv t P) (h2 : c = false → Gv u P) : Gv (if c = true then t else u) P := by
  cases c
  · exact h2 rfl
  · exact h1 rfl
theorem Gv.dite {p : Prop} [Decidable p] {t u : Option α} {P : α → Prop} (h1 : p → Gv t P) (h2 : ¬p → Gv u P) : Gv (if decide p = true then t else u) P := Gv.ite (fun h => h1 (of_decide_eq_true h)) fun h => h2 (of_decide_eq_false h)
theorem Gv.nite {p : Prop} [Decidable p] {t u : Option α} {P : α → Prop} (h1 : ¬p → Gv t P) (h2 : p → Gv u P) : Gv (if (!decide p) = true then t else u) P := by
  by_cases h : p
  · simp only [h, decide_true, Bool.not_true, Bool.false_eq_true, if_false]; exact h2 h
  · simp only [h, decide_false, Bool.not_false, if_true]; exact h1 h
theorem Gv.iteT {c : Bool} {t u : Option α} {P : α → Prop} (h : c = true) (k : Gv t P) : Gv (if c = true then t else u) P := by rw [if_pos h]; exact k
theorem Gv.iteF {c : Bool} {t u : Option α} {P : α → Prop} (h : c = false) (k : Gv u P) : Gv (if c = true then t else u) P := by rw [h]; exact k
theorem Gv.mono {t : Option α} {P Q : α → Prop} (h : Gv t P) (k : ∀ a, P a → Q a) : Gv t Q := let ⟨a, e, p⟩ := h; ⟨a, e, k a p⟩
theorem Gv.of {t : Option α} {a : α} {P : α → Prop} (e : t = Option.some a) (h : P a) : Gv t P := ⟨a, e, h⟩
theorem Gv.eq {t : Option α} {a : α} (h : Gv t (· = a)) : t = Option.some a := let ⟨_, e, p⟩ := h; p ▸ e
theorem Gv.draw {d : DSt} {n : Int} {P : Int × DSt → Prop} (hn : 0 < n ∧ n < 1073741824) (h : ∀ v d', 0 ≤ v → v < n → P (v, d')) : Gv (t__law_draw d n) P :=
  ⟨drawV d n, if_pos hn, h _ _ (drawV_ge d hn.1) (drawV_lt d hn.1)⟩
theorem Gv.app {xs : List α} {x : α} {P : List α → Prop} (hl : xs.length < 1000000) (h : P (xs ++ [x])) : Gv (appO xs x) P := ⟨_, if_pos hl, h⟩
theorem Gv.add {xs ys : List α} {P : List α → Prop} (hl : xs.length + ys.length ≤ 1000000) (h : P (xs ++ ys)) : Gv (addO xs ys) P := ⟨_, if_pos hl, h⟩
theorem Gv.mapU {f : α → β} {xs : List α} {P : List β → Prop} (hl : xs.length ≤ 1000000) (h : P (xs.map f)) : Gv (mapU f xs) P := ⟨_, if_pos hl, h⟩
theorem Gv.mapO {c : α → Bool} {f : α → β} {xs : List α} {P : List β → Prop} (hl : xs.length ≤ 1000000) (h : P ((xs.filter c).map f)) : Gv (mapO c f xs) P := ⟨_, if_pos hl, h⟩
theorem Gv.keep {xs : List α} {P : List α → Prop} (hl : xs.length ≤ 1000000) (h : P xs) : Gv (keepO xs) P := ⟨_, if_pos hl, h⟩
theorem Gv.rng1 {n : Int} {P : List Int → Prop} (hn : -1000000000 ≤ n ∧ n ≤ 1000000000) (h : P (intsT 0 n.toNat)) : Gv (rng1 n) P := ⟨_, if_pos hn, h⟩
theorem Gv.rng2 {m n : Int} {P : List Int → Prop} (hm : -1000000000 ≤ m ∧ m ≤ 1000000000) (hn : -1000000000 ≤ n ∧ n ≤ 1000000000) (h : P (intsT m (n - m).toNat)) : Gv (rng2 m n) P := ⟨_, if_pos ⟨hm, hn⟩, h⟩
theorem ixN_ok {n : Nat} {i : Int} (h0 : 0 ≤ i) (h1 : i < n) : ixN n i = Option.some i.toNat := by unfold ixN; rw [if_pos h0, if_pos h1]
theorem atI_ok {xs : List α} {i : Int} {x : α} (h0 : 0 ≤ i) (h : xs[i.toNat]? = Option.some x) : atI xs i = Option.some x := by
  have hl := (List.getElem?_eq_some_iff.mp h).1
  unfold atI
  rw [ixN_ok h0 (by omega)]; exact h
theorem Gv.at {xs : List α} {i : Int} {P : α → Prop} (h0 : 0 ≤ i) (h1 : i < xs.length) (h : ∀ x, xs[i.toNat]? = Option.some x → P x) : Gv (atI xs i) P := by
  have hl : i.toNat < xs.length := by omega
  exact ⟨_, atI_ok h0 (List.getElem?_eq_getElem hl), h _ (List.getElem?_eq_getElem hl)⟩
theorem Gv.set {xs : List α} {i : Int} {x : α} {P : List α → Prop} (h0 : 0 ≤ i) (h1 : i < xs.length) (h : P (xs.set i.toNat x)) : Gv (setO xs i x) P := ⟨_, by unfold setO; rw [ixN_ok h0 h1]; rfl, h⟩
theorem Gv.pop {xs : List α} {i : Int} {P : α × List α → Prop} (hl : xs.length ≤ 1000000) (h0 : 0 ≤ i) (h1 : i < xs.length) (h : ∀ x, xs[i.toNat]? = Option.some x → P (x, xs.eraseIdx i.toNat)) : Gv (popO xs i) P := by
  have hl2 : i.toNat < xs.length := by omega
  refine ⟨_, ?_, h _ (List.getElem?_eq_getElem hl2)⟩
  unfold popO
  rw [ixN_ok h0 h1]
  show (if _ then _ else _) = _
  rw [if_pos hl, List.getElem?_eq_getElem hl2]; rfl
theorem Gv.put [DecidableEq α] {kvs : List (α × β)} {k : α} {v : β} {P : List (α × β) → Prop} (hl : kvs.length ≤ 1000000) (h : P (putT kvs k v)) : Gv (putO kvs k v) P := ⟨_, if_pos hl, h⟩
/-- a loop by an invariant over the part behind it -/
theorem Gv.fold {step : γ → α → Option γ} {xs : List α} {c0 : γ} {P : γ → Prop} (Inv : List α → γ → Prop) (h0 : Inv [] c0) (hs : ∀ pre x post c, xs = pre ++ x :: post → Inv pre c → Gv (step c x) (Inv (pre ++ [x]))) (he : ∀ c, Inv xs c → P c) : Gv (foldT step xs c0) P := by
  have key : ∀ (post pre : List α) (c : γ), xs = pre ++ post → Inv pre c → Gv (foldT step post c) P := fun post => by
    induction post with
    | nil =>
      intro pre c e i
      rw [List.append_nil] at e
      subst e
      exact ⟨c, rfl, he c i⟩
    | cons x r ih =>
      intro pre c e i
      obtain ⟨c', e1, i1⟩ := hs pre x r c e i
      obtain ⟨c2, e2, p⟩ := ih (pre ++ [x]) c' (by rw [e, List.append_assoc]; rfl) i1
      refine ⟨c2, ?_, p⟩
      rw [foldT, e1]; exact e2
  exact key xs [] c0 rfl h0
theorem Gv.loop {step : γ → α → Option (Lp γ ρ)} {xs : List α} {c0 : γ} {P : Lp γ ρ → Prop} (Inv : List α → γ → Prop) (h0 : Inv [] c0)
    (hs : ∀ pre x post c, xs = pre ++ x :: post → Inv pre c → Gv (step c x) fun l => match l with
      | .nx c' => Inv (pre ++ [x]) c'
      | .bk c' => P (.bk c')
      | .rt r => P (.rt r)) (he : ∀ c, Inv xs c → P (.nx c)) : Gv (loopT step xs c0) P := by
  have key : ∀ (post pre : List α) (c : γ), xs = pre ++ post → Inv pre c → Gv (loopT step post c) P := fun post => by
    induction post with
    | nil =>
      intro pre c e i
      rw [List.append_nil] at e
      subst e
      exact ⟨_, rfl, he c i⟩
    | cons x r ih =>
      intro pre c e i
      obtain ⟨l, e1, i1⟩ := hs pre x r c e i
      cases l with
      | nx c' =>
        obtain ⟨c2, e2, p⟩ := ih (pre ++ [x]) c' (by rw [e, List.append_assoc]; rfl) i1
        refine ⟨c2, ?_, p⟩
        rw [loopT, e1]; exact e2
      | bk c' => exact ⟨.bk c', by rw [loopT, e1]; rfl, i1⟩
      | rt b => exact ⟨.rt b, by rw [loopT, e1]; rfl, i1⟩
  exact key xs [] c0 rfl h0
theorem Gv.out {l : Lp γ ρ} {k : γ → Option β} {kr : ρ → Option β} {P : β → Prop} (h : match l with
    | .nx c => Gv (k c) P
    | .bk c => Gv (k c) P
    | .rt r => Gv (kr r) P) : Gv (Lp.out k kr l) P := by
  cases l <;> exact h
theorem Gv.comp {step : γ → α → Option (γ × Option τ)} {xs : List α} {c0 : γ} {P : γ × List τ → Prop} (Inv : List α → γ → List τ → Prop) (hl : xs.length ≤ 1000000) (h0 : Inv [] c0 [])
    (hs : ∀ pre x post c ys, xs = pre ++ x :: post → Inv pre c ys → Gv (step c x) fun p => Inv (pre ++ [x]) p.1 (ys ++ p.2.toList)) (he : ∀ c ys, Inv xs c ys → P (c, ys)) : Gv (compO step xs c0) P := by
  have key : ∀ (post pre : List α) (c : γ) (ys : List τ), xs = pre ++ post → Inv pre c ys → Gv (compT step post c) fun q => Inv xs q.1 (ys ++ q.2) := fun post => by
    induction post with
    | nil =>
      intro pre c ys e i
      rw [List.append_nil] at e
      subst e
      exact ⟨(c, []), rfl, by show Inv xs c (ys ++ []); rw [List.append_nil]; exact i⟩
    | cons x r ih =>
      intro pre c ys e i
      obtain ⟨p, e1, i1⟩ := hs pre x r c ys e i
      obtain ⟨q, e2, j⟩ := ih (pre ++ [x]) p.1 _ (by rw [e, List.append_assoc]; rfl) i1
      refine ⟨(q.1, match p.2 with
        | some y => y :: q.2
        | none => q.2), by rw [compT, e1]; show Option.bind (compT step r p.1) _ = _; rw [e2]; rfl, ?_⟩
      obtain ⟨c', o⟩ := p
      cases o with
      | none => rw [Option.toList_none, List.append_nil] at j; exact j
      | some y => rw [Option.toList_some, List.append_assoc] at j; exact j
  obtain ⟨q, e, i⟩ := key xs [] c0 [] rfl h0
  exact ⟨q, by unfold compO; rw [if_pos hl]; exact e, he q.1 q.2 i⟩
theorem intsT_len (lo : Int) (n : Nat) : (intsT lo n).length = n := by simp [intsT]
theorem intsT_split {lo : Int} {n : Nat} {pre post : List Int} {x : Int} (h : intsT lo n = pre ++ x :: post) : pre.length < n ∧ x = lo + (pre.length : Int) ∧ pre = intsT lo pre.length := by
  have hl := congrArg List.length h
  rw [intsT_len, List.length_append, List.length_cons] at hl
  have h1 : (intsT lo n)[pre.length]? = Option.some x := by rw [h]; simp
  refine ⟨by omega, ?_, ?_⟩
  · unfold intsT at h1
    rw [List.getElem?_map, List.getElem?_range (by omega)] at h1
    exact (Option.some.inj h1).symm
  · have h2 : pre = (intsT lo n).take pre.length := by rw [h]; simp
    rw [h2]
    unfold intsT
    rw [← List.map_take, List.take_range, List.length_map, List.length_range]
theorem intsT_succ (lo : Int) (n : Nat) : intsT lo (n + 1) = intsT lo n ++ [lo + (n : Int)] := by
  unfold intsT
  rw [List.range_succ, List.map_append]; rfl
/-- over enumerate -/
theorem Gv.foldE {step : γ → Int × α → Option γ} {xs : List α} {c0 : γ} {P : γ → Prop} (Inv : List α → γ → Prop) (h0 : Inv [] c0) (hs : ∀ pre x post c, xs = pre ++ x :: post → Inv pre c → Gv (step c ((pre.length : Int), x)) (Inv (pre ++ [x]))) (he : ∀ c, Inv xs c → P c) : Gv (foldT step (enumT xs) c0) P := by
  have key : ∀ (post pre : List α) (c : γ), xs = pre ++ post → Inv pre c → Gv (foldT step (post.mapIdx fun i x => (((i + pre.length : Nat) : Int), x)) c) P := fun post => by
    induction post with
    | nil =>
      intro pre c e i
      rw [List.append_nil] at e
      subst e
      exact ⟨c, rfl, he c i⟩
    | cons x r ih =>
      intro pre c e i
      obtain ⟨c', e1, i1⟩ := hs pre x r c e i
      obtain ⟨c2, e2, p⟩ := ih (pre ++ [x]) c' (by rw [e, List.append_assoc]; rfl) i1
      refine ⟨c2, ?_, p⟩
      rw [List.mapIdx_cons, foldT]
      have : ((0 + pre.length : Nat) : Int) = (pre.length : Int) := by omega
      rw [this, e1]
      show foldT step _ c' = _
      rw [← e2]
      congr 1
      apply List.ext_getElem?
      intro j
      simp only [List.getElem?_mapIdx, List.length_append, List.length_cons, List.length_nil]
      congr 1
      funext a
      congr 1
      omega
  have := key xs [] c0 rfl h0
  unfold enumT
  simpa using this
/-- over range(n) -/
theorem Gv.foldR {step : γ → Int → Option γ} {n : Nat} {c0 : γ} {P : γ → Prop} (Inv : Nat → γ → Prop) (h0 : Inv 0 c0) (hs : ∀ (i : Nat) c, i < n → Inv i c → Gv (step c (i : Int)) (Inv (i + 1))) (he : ∀ c, Inv n c → P c) : Gv (foldT step (intsT 0 n) c0) P := by
  refine Gv.fold (fun pre c => Inv pre.length c) h0 (fun pre x post c e i => ?_) fun c i => he c (by rw [intsT_len] at i; exact i)
  obtain ⟨h1, h2, _⟩ := intsT_split e
  rw [Int.zero_add] at h2
  subst h2
  rw [List.length_append]
  exact hs _ c h1 i
theorem Gv.loopR {step : γ → Int → Option (Lp γ ρ)} {n : Nat} {c0 : γ} {P : Lp γ ρ → Prop} (Inv : Nat → γ → Prop) (h0 : Inv 0 c0)
    (hs : ∀ (i : Nat) c, i < n → Inv i c → Gv (step c (i : Int)) fun l => match l with
      | .nx c' => Inv (i + 1) c'
      | .bk c' => P (.bk c')
      | .rt r => P (.rt r)) (he : ∀ c, Inv n c → P (.nx c)) : Gv (loopT step (intsT 0 n) c0) P := by
  refine Gv.loop (fun pre c => Inv pre.length c) h0 (fun pre x post c e i => ?_) fun c i => he c (by rw [intsT_len] at i; exact i)
  obtain ⟨h1, h2, _⟩ := intsT_split e
  rw [Int.zero_add] at h2
  subst h2
  rw [List.length_append]
  exact hs _ c h1 i
/-! draws of rows -/
theorem Gv.pick {d : DSt} {xs : List α} {P : α × DSt → Prop} (hn : 0 < xs.length ∧ xs.length < 1073741824) (h : ∀ x d', x ∈ xs → P (x, d')) : Gv (t__law_pick d xs) P := by
  unfold t__law_pick
  refine Gv.bind (Gv.draw (by omega) fun v d' h0 h1 => Gv.bind (Gv.at h0 h1 fun x hx => Gv.ret (h x d' (List.mem_of_getElem? hx))))
theorem Gv.popd {d : DSt} {xs : List α} {P : α × DSt × List α → Prop} (hn : 0 < xs.length ∧ xs.length ≤ 1000000) (h : ∀ (x : α) (d' : DSt) (k : Nat), xs[k]? = Option.some x → P (x, d', xs.eraseIdx k)) : Gv (t__law_pop d xs) P := by
  unfold t__law_pop
  refine Gv.bind (Gv.draw (by omega) fun v d' h0 h1 => Gv.bind (Gv.pop hn.2 h0 h1 fun x hx => Gv.ret (h x d' _ hx)))
theorem Gv.shuffled {d : DSt} {xs : List α} {P : List α × DSt → Prop} (hn : xs.length < 1000000) (h : ∀ ys d', ys.Perm xs → P (ys, d')) : Gv (t__law_shuffled d xs) P := by
  unfold t__law_shuffled
  refine Gv.bnd (Gv.bnd (Gv.bind (Gv.rng1 (by omega) (Gv.bind (Gv.fold (fun pre c => (c.2.2 ++ c.2.1).Perm xs ∧ c.2.2.length = pre.length) ⟨.refl _, rfl⟩ ?_ ?_)))))
  · rintro pre k post ⟨d', left, found⟩ e ⟨hp, hl⟩
    have hk := (intsT_split e).1
    have hlen := hp.length_eq
    dsimp only at hl hp hlen ⊢
    rw [List.length_append] at hlen
    refine Gv.bind (Gv.draw (by omega) fun v d2 h0 h1 => Gv.bind (Gv.pop (by omega) h0 h1 fun x hx => Gv.bind (Gv.app (by omega) (Gv.ret ⟨?_, ?_⟩))))
    · show ((found ++ [x]) ++ left.eraseIdx v.toNat).Perm xs
      rw [List.append_assoc]
      exact ((eraseIdx_perm hx).append_left found).trans hp
    · show (found ++ [x]).length = (pre ++ [k]).length
      rw [List.length_append, List.length_append, hl]; rfl
  · rintro ⟨d', left, found⟩ ⟨hp, hl⟩
    rw [intsT_len] at hl
    have hlen := hp.length_eq
    dsimp only at hl hp hlen
    rw [List.length_append] at hlen
    have e : left = [] := List.eq_nil_of_length_eq_zero (by omega)
    subst e
    rw [List.append_nil] at hp
    exact Gv.ret (h found d' hp)
end
end DL
set_option maxHeartbeats 1000000
namespace DL
open PySem PySem.Spec PyProof.Rows L2
local macro_rules | `(tactic| walk_at "side") => `(tactic| first | assumption | omega | rfl | decide | (simp only [List.length_append, List.length_cons, List.length_nil, List.length_map]; omega) | (simp only [List.length_append, List.length_cons, List.length_nil, List.length_map] at *; omega))
local macro_rules | `(tactic| walk_at "more") => `(tactic| fail)
local macro_rules | `(tactic| walk_at "gv1") => `(tactic| first
  | refine Gv.bnd ?_ | refine Gv.bind ?_ | refine Gv.ret ?_
  | refine Gv.app (by walk_at "side") ?_ | refine Gv.add (by walk_at "side") ?_ | refine Gv.mapU (by walk_at "side") ?_ | refine Gv.mapO (by walk_at "side") ?_ | refine Gv.keep (by walk_at "side") ?_
  | refine Gv.rng1 (by walk_at "side") ?_ | refine Gv.put (by walk_at "side") ?_ | refine Gv.draw (by walk_at "side") fun _ _ _ _ => ?_ | refine Gv.shuffled (by walk_at "side") fun _ _ _ => ?_ | refine Gv.pick (by walk_at "side") fun _ _ _ => ?_)
local macro_rules | `(tactic| walk_at "gv") => `(tactic| repeat' (first | walk_at "gv1" | walk_at "more" | fail))
/-! P4: the generators of letters. -/
theorem cutT_take {α : Type} (xs : List α) (n : Nat) : cutT xs none (some (n : Int)) = xs.take n := by
  unfold cutT
  rw [HT.sIx_nat, HT.sIx_none, List.drop_zero, Nat.sub_zero]
  exact List.take_eq_take_iff.mpr (by omega)
theorem cutT_drop {α : Type} (xs : List α) (n : Nat) : cutT xs (some (n : Int)) none = xs.drop n := by
  unfold cutT
  rw [HT.sIx_nat, HT.sIx_none]
  rw [List.take_of_length_le (by rw [List.length_drop]; omega)]
  by_cases h : n ≤ xs.length
  · rw [Nat.min_eq_left h]
  · rw [Nat.min_eq_right (by omega), List.drop_eq_nil_of_le (Nat.le_refl _), List.drop_eq_nil_of_le (by omega)]
theorem Gv.some_ {α : Type} {d : DSt} {xs : List α} {P : List α × DSt → Prop} (hn : 0 < xs.length ∧ xs.length ≤ 1000000) (h : ∀ ys d', ys.Sublist xs → 0 < ys.length → P (ys, d')) : Gv (t__law_some d xs) P := by
  unfold t__law_some
  refine Gv.bind (Gv.comp (fun pre _ ys => ys.Sublist pre) hn.2 (List.Sublist.refl _) ?_ ?_)
  · rintro pre x post c ys e hs
    refine Gv.bind (Gv.draw (by omega) fun v d' h0 h1 => Gv.ite (fun _ => Gv.ret ?_) fun _ => Gv.ret ?_)
    · exact hs.append (List.Sublist.refl [x])
    · show (ys ++ []).Sublist (pre ++ [x])
      rw [List.append_nil]
      exact hs.trans (List.sublist_append_left pre [x])
  · rintro c ys hs
    refine Gv.bnd (Gv.bind (Gv.dite (fun _ => ?_) fun hne => ?_))
    · refine Gv.bind (Gv.draw (by omega) fun v d' h0 h1 => Gv.bind (Gv.at h0 h1 fun x hx => Gv.bnd (Gv.ret (Gv.ret (h _ _ ?_ Nat.one_pos)))))
      exact List.singleton_sublist.mpr (List.mem_of_getElem? hx)
    · refine Gv.ret (Gv.ret (h ys c hs ?_))
      have hne : ¬ ((ys.length : Int) = 0) := hne
      omega
def poolT : List TX := (t__law_pool).getD []
theorem pool_eq : t__law_pool = some poolT := by
  have : (t__law_pool).isSome = true := by decide +kernel
  unfold poolT
  cases h : t__law_pool with
  | none => rw [h] at this; cases this
  | some x => rfl
theorem poolT_nodup : poolT.Nodup := by decide +kernel
theorem poolT_len : poolT.length = 60 := by decide +kernel
abbrev rolesT : List TX := [c_read, c_write, c_fence, c_swap]
/-- a drawn row of letters -/
structure DrawnLetters (l : Letters) : Prop where
  nd : (l.map Prod.fst).Nodup
  pool : ∀ x ∈ l.map Prod.fst, x ∈ poolT
  roles : ∃ rs, (l.map Prod.snd).Perm (c_read :: c_write :: rs) ∧ ∀ r ∈ rs, r ∈ rolesT
  len : l.length ≤ 50
theorem gv_letters {d : DSt} {n : Int} {P : Letters × DSt → Prop} (hn : n ≤ 40) (h : ∀ l d', DrawnLetters l → ((l.length : Int) ≤ max 2 n) → P (l, d')) : Gv (t__law_letters d n) P := by
  unfold t__law_letters
  refine Gv.bind (Gv.of pool_eq (Gv.bnd (Gv.bnd ?_)))
  rw [max2_eq]
  refine Gv.bind (Gv.draw (by omega) fun v d1 h0 h1 => Gv.bind (Gv.rng1 (by omega) (Gv.bind (Gv.foldR (fun i c => ∃ rs, c.2 = c_read :: c_write :: rs ∧ rs.length = i ∧ ∀ r ∈ rs, r ∈ rolesT) ⟨[], rfl, rfl, fun _ m => (nomatch m)⟩ ?_ ?_))))
  · rintro i ⟨d2, roles⟩ hi ⟨rs, hr, hl, hm⟩
    dsimp only at hr ⊢
    subst hr
    refine Gv.bind (Gv.pick (by decide) fun x d3 hx => Gv.bind (Gv.app (by simp only [List.length_cons]; omega) (Gv.ret ⟨rs ++ [x], rfl, by rw [List.length_append, hl]; rfl, fun r m => ?_⟩)))
    rcases List.mem_append.mp m with m | m
    · exact hm r m
    · rw [List.mem_singleton.mp m]
      simp only [List.mem_cons, List.not_mem_nil, or_false] at hx ⊢
      rcases hx with rfl | rfl | rfl | rfl | rfl <;> simp
  · rintro ⟨d2, roles⟩ ⟨rs, hr, hl, hm⟩
    dsimp only at hr ⊢
    subst hr
    refine Gv.bind (Gv.shuffled (by simp only [List.length_cons]; omega) fun ys d3 hp => ?_)
    have hlen := hp.length_eq
    simp only [List.length_cons] at hlen
    have hl : rs.length = v.toNat := hl
    dsimp only
    refine Gv.bind (Gv.comp (fun pre c zs => zs.map Prod.snd = pre ∧ (zs.map Prod.fst ++ c.2).Perm poolT) (by omega) ⟨rfl, .refl _⟩ ?_ ?_)
    · rintro pre x post ⟨d4, names⟩ zs e ⟨h2, h3⟩
      dsimp only at h3 ⊢
      have e1 := h3.length_eq
      rw [List.length_append, poolT_len] at e1
      have e2 : ys.length = (pre ++ x :: post).length := congrArg List.length e
      rw [List.length_append, List.length_cons] at e2
      have e3 := congrArg List.length h2
      rw [List.length_map] at e1 e3
      refine Gv.bind (Gv.popd (by omega) fun y d5 k hk => Gv.ret ⟨?_, ?_⟩)
      · show (zs ++ [(y, x)]).map Prod.snd = pre ++ [x]
        rw [List.map_append, h2]; rfl
      · show ((zs ++ [(y, x)]).map Prod.fst ++ names.eraseIdx k).Perm poolT
        rw [List.map_append, List.append_assoc]
        exact ((eraseIdx_perm hk).append_left _).trans h3
    · rintro ⟨d4, names⟩ zs ⟨h2, h3⟩
      have h2 : zs.map Prod.snd = ys := h2
      have hz : zs.length = ys.length := by rw [← h2, List.length_map]
      refine Gv.ret (h zs d4 ⟨?_, fun x m => ?_, ⟨rs, by rw [h2]; exact hp, hm⟩, ?_⟩ ?_)
      · exact (List.nodup_append.mp (h3.nodup_iff.mpr poolT_nodup)).1
      · exact h3.mem_iff.mp (List.mem_append_left _ m)
      · omega
      · omega
theorem DrawnLetters.read {l : Letters} (h : DrawnLetters l) : ∃ p ∈ l, p.2 = c_read := by
  obtain ⟨rs, hp, _⟩ := h.roles
  obtain ⟨p, m, e⟩ := List.mem_map.mp (hp.mem_iff.mpr List.mem_cons_self)
  exact ⟨p, m, e⟩
theorem DrawnLetters.two {l : Letters} (h : DrawnLetters l) : 2 ≤ l.length := by
  obtain ⟨rs, hp, _⟩ := h.roles
  have := hp.length_eq
  rw [List.length_map] at this
  simp only [List.length_cons] at this
  omega
theorem DrawnLetters.role {l : Letters} (h : DrawnLetters l) : ∀ p ∈ l, p.2 ∈ rolesT := by
  obtain ⟨rs, hp, hm⟩ := h.roles
  intro p m
  have := hp.mem_iff.mp (List.mem_map_of_mem (f := Prod.snd) m)
  rcases List.mem_cons.mp this with e | this
  · rw [e]; decide
  · rcases List.mem_cons.mp this with e | this
    · rw [e]; decide
    · exact hm _ this
end DL
set_option maxHeartbeats 1000000
namespace DL
open PySem PySem.Spec PyProof.Rows L2
local macro_rules | `(tactic| walk_at "side") => `(tactic| first | assumption | omega | rfl | decide | (simp only [List.length_append, List.length_cons, List.length_nil, List.length_map]; omega) | (simp only [List.length_append, List.length_cons, List.length_nil, List.length_map] at *; omega))
local macro_rules | `(tactic| walk_at "more") => `(tactic| fail)
local macro_rules | `(tactic| walk_at "gv1") => `(tactic| first
  | refine Gv.bnd ?_ | refine Gv.bind ?_ | refine Gv.ret ?_
  | refine Gv.app (by walk_at "side") ?_ | refine Gv.add (by walk_at "side") ?_ | refine Gv.mapU (by walk_at "side") ?_ | refine Gv.mapO (by walk_at "side") ?_ | refine Gv.keep (by walk_at "side") ?_
  | refine Gv.rng1 (by walk_at "side") ?_ | refine Gv.put (by walk_at "side") ?_ | refine Gv.draw (by walk_at "side") fun _ _ _ _ => ?_ | refine Gv.shuffled (by walk_at "side") fun _ _ _ => ?_ | refine Gv.pick (by walk_at "side") fun _ _ _ => ?_)
local macro_rules | `(tactic| walk_at "gv") => `(tactic| repeat' (first | walk_at "gv1" | walk_at "more" | fail))
/-! P7: words left out of bars. -/
abbrev Nm := Int × Int × Int
def kw (g : Int → Bool) : Int → List Word → List Word
  | _, [] => []
  | i, w :: r => if g i = true then kw g (i + 1) r else w :: kw g (i + 1) r
theorem kw_snoc (g : Int → Bool) (w : Word) : ∀ (ws : List Word) (i : Int), kw g i (ws ++ [w]) = kw g i ws ++ (if g (i + (ws.length : Int)) = true then [] else [w])
  | [], i => by
    show (if g i = true then [] else [w]) = [] ++ _
    rw [List.nil_append, List.length_nil]; simp
  | x :: r, i => by
    show (if g i = true then kw g (i + 1) (r ++ [w]) else x :: kw g (i + 1) (r ++ [w])) = (if g i = true then kw g (i + 1) r else x :: kw g (i + 1) r) ++ _
    rw [kw_snoc g w r (i + 1)]
    have e : i + 1 + (r.length : Int) = i + ((x :: r).length : Int) := by rw [List.length_cons]; omega
    rw [e]
    split <;> rfl
theorem kw_len (g : Int → Bool) : ∀ (ws : List Word) (i : Int), (kw g i ws).length ≤ ws.length
  | [], _ => Nat.le_refl _
  | x :: r, i => by
    have := kw_len g r (i + 1)
    unfold kw
    split
    · rw [List.length_cons]; omega
    · rw [List.length_cons, List.length_cons]; omega
theorem kw_congr {g g' : Int → Bool} : ∀ (ws : List Word) (i : Int), (∀ (t : Nat), t < ws.length → g (i + (t : Int)) = g' (i + (t : Int))) → kw g i ws = kw g' i ws
  | [], _, _ => rfl
  | x :: r, i, h => by
    have h0 := h 0 (by simp)
    have ih := kw_congr (g := g) (g' := g') r (i + 1) fun t ht => by
      have e : i + 1 + (t : Int) = i + ((t + 1 : Nat) : Int) := by omega
      rw [e]
      exact h (t + 1) (by simp; omega)
    simp at h0
    unfold kw
    rw [h0, ih]
theorem kw_none {g : Int → Bool} : ∀ (ws : List Word) (i : Int), (∀ (t : Nat), t < ws.length → g (i + (t : Int)) = false) → kw g i ws = ws
  | [], _, _ => rfl
  | x :: r, i, h => by
    have h0 := h 0 (by simp)
    have ih := kw_none (g := g) r (i + 1) fun t ht => by
      have := h (t + 1) (by simp; omega)
      have e : i + ((t + 1 : Nat) : Int) = i + 1 + (t : Int) := by omega
      rw [e] at this
      exact this
    simp at h0
    unfold kw
    rw [h0, ih]; rfl
theorem kw_all {g : Int → Bool} : ∀ (ws : List Word) (i : Int), (∀ (t : Nat), t < ws.length → g (i + (t : Int)) = true) → kw g i ws = []
  | [], _, _ => rfl
  | x :: r, i, h => by
    have h0 := h 0 (by simp)
    have ih := kw_all (g := g) r (i + 1) fun t ht => by
      have := h (t + 1) (by simp; omega)
      have e : i + ((t + 1 : Nat) : Int) = i + 1 + (t : Int) := by omega
      rw [e] at this
      exact this
    simp at h0
    unfold kw
    rw [h0, ih]; rfl
/-- left out twice -/
theorem kw_two {g1 g2 h : Int → Bool} : ∀ (ws : List Word) (i j : Int), (∀ (t : Nat), t < ws.length → g1 (i + (t : Int)) = false → h (j + ((kw g1 i (ws.take t)).length : Int)) = g2 (i + (t : Int))) → (∀ (t : Nat), t < ws.length → g1 (i + (t : Int)) = true → g2 (i + (t : Int)) = true) → kw h j (kw g1 i ws) = kw g2 i ws
  | [], _, _, _, _ => rfl
  | x :: r, i, j, h1, h2 => by
    have e0 : ∀ t : Nat, i + ((t + 1 : Nat) : Int) = i + 1 + (t : Int) := fun t => by omega
    cases hg : g1 i with
    | true =>
      have hg2 : g2 i = true := by
        have := h2 0 (by simp)
        simp at this
        exact this hg
      have ih := kw_two (g1 := g1) (g2 := g2) (h := h) r (i + 1) j (fun t ht hf => by
        have := h1 (t + 1) (by simp; omega)
        rw [e0] at this
        have := this hf
        rw [List.take_succ_cons] at this
        have e : kw g1 i (x :: r.take t) = kw g1 (i + 1) (r.take t) := by
          show (if g1 i = true then _ else _) = _
          rw [hg]; rfl
        rw [e] at this
        exact this) (fun t ht hf => by
        have := h2 (t + 1) (by simp; omega)
        rw [e0] at this
        exact this hf)
      have e1 : kw g1 i (x :: r) = kw g1 (i + 1) r := by
        show (if g1 i = true then _ else _) = _
        rw [hg]; rfl
      have e2 : kw g2 i (x :: r) = kw g2 (i + 1) r := by
        show (if g2 i = true then _ else _) = _
        rw [hg2]; rfl
      rw [e1, e2, ih]
    | false =>
      have h0 := h1 0 (by simp) (by simpa using hg)
      have h0 : h j = g2 i := by
        rw [List.take_zero] at h0
        simpa [kw] using h0
      have ih := kw_two (g1 := g1) (g2 := g2) (h := h) r (i + 1) (j + 1) (fun t ht hf => by
        have := h1 (t + 1) (by simp; omega)
        rw [e0] at this
        have := this hf
        rw [List.take_succ_cons] at this
        have e : (kw g1 i (x :: r.take t)).length = (kw g1 (i + 1) (r.take t)).length + 1 := by
          show (if g1 i = true then _ else _ : List Word).length = _
          rw [hg]; rfl
        rw [e] at this
        have e3 : j + (((kw g1 (i + 1) (r.take t)).length + 1 : Nat) : Int) = j + 1 + ((kw g1 (i + 1) (r.take t)).length : Int) := by omega
        rw [e3] at this
        exact this) (fun t ht hf => by
        have := h2 (t + 1) (by simp; omega)
        rw [e0] at this
        exact this hf)
      have e1 : kw g1 i (x :: r) = x :: kw g1 (i + 1) r := by
        show (if g1 i = true then _ else _) = _
        rw [hg]; rfl
      have e2 : kw h j (x :: kw g1 (i + 1) r) = if h j = true then kw h (j + 1) (kw g1 (i + 1) r) else x :: kw h (j + 1) (kw g1 (i + 1) r) := rfl
      have e3 : kw g2 i (x :: r) = if g2 i = true then kw g2 (i + 1) r else x :: kw g2 (i + 1) r := rfl
      rw [e1, e2, e3, ih, h0]
/-- the kept ones ahead of a kept one are fewer than those ahead of a later one -/
theorem kw_lt {g : Int → Bool} {ws : List Word} {i : Int} {a b : Nat} (hab : a < b) (hb : b ≤ ws.length) (hg : g (i + (a : Int)) = false) : (kw g i (ws.take a)).length < (kw g i (ws.take b)).length := by
  have key : ∀ n, a + 1 + n ≤ ws.length → (kw g i (ws.take a)).length < (kw g i (ws.take (a + 1 + n))).length := fun n => by
    induction n with
    | zero =>
      intro h
      rw [Nat.add_zero, List.take_add_one, List.getElem?_eq_getElem (by omega), Option.toList_some, kw_snoc, List.length_append, List.length_take, Nat.min_eq_left (by omega), hg]
      simp
    | succ n ih =>
      intro h
      have h1 := ih (by omega)
      rw [show a + 1 + (n + 1) = (a + 1 + n) + 1 by omega, List.take_add_one, List.getElem?_eq_getElem (by omega), Option.toList_some, kw_snoc, List.length_append]
      omega
  have := key (b - a - 1) (by omega)
  rwa [show a + 1 + (b - a - 1) = b by omega] at this
theorem kw_inj {g : Int → Bool} {ws : List Word} {i : Int} {a b : Nat} (ha : a < ws.length) (hb : b < ws.length) (ga : g (i + (a : Int)) = false) (gb : g (i + (b : Int)) = false) (h : (kw g i (ws.take a)).length = (kw g i (ws.take b)).length) : a = b := by
  by_cases h1 : a < b
  · have := kw_lt (ws := ws) h1 (by omega) ga; omega
  · by_cases h2 : b < a
    · have := kw_lt (ws := ws) h2 (by omega) gb; omega
    · omega
/-! bars -/
abbrev GF := Int → Int → Int → Bool
def stays (g : GF) (n : Int) (b : Bar) : Bool := if b.2.1 = c_loop then decide (0 < (kw (g n 0) 0 b.2.2.1).length) else decide (0 < (kw (g n 1) 0 b.2.2.2).length)
def barOut (g : GF) (n : Int) (b : Bar) : Bar := (b.1, b.2.1, kw (g n 0) 0 b.2.2.1, kw (g n 1) 0 b.2.2.2)
def dropB (g : GF) : Int → List Bar → List Bar
  | _, [] => []
  | n, b :: r => if stays g n b = true then barOut g n b :: dropB g (n + 1) r else dropB g (n + 1) r
theorem dropB_snoc (g : GF) (b : Bar) : ∀ (bs : List Bar) (n : Int), dropB g n (bs ++ [b]) = dropB g n bs ++ (if stays g (n + (bs.length : Int)) b = true then [barOut g (n + (bs.length : Int)) b] else [])
  | [], n => by
    show (if stays g n b = true then [barOut g n b] else []) = [] ++ _
    rw [List.nil_append, List.length_nil]; simp
  | x :: r, n => by
    show (if stays g n x = true then barOut g n x :: dropB g (n + 1) (r ++ [b]) else dropB g (n + 1) (r ++ [b])) = (if stays g n x = true then barOut g n x :: dropB g (n + 1) r else dropB g (n + 1) r) ++ _
    rw [dropB_snoc g b r (n + 1)]
    have e : n + 1 + (r.length : Int) = n + ((x :: r).length : Int) := by rw [List.length_cons]; omega
    rw [e]
    split <;> rfl
theorem dropB_len (g : GF) : ∀ (bs : List Bar) (n : Int), (dropB g n bs).length ≤ bs.length
  | [], _ => Nat.le_refl _
  | x :: r, n => by
    have := dropB_len g r (n + 1)
    unfold dropB
    split
    · rw [List.length_cons, List.length_cons]; omega
    · rw [List.length_cons]; omega
def partOf (p : Int) (b : Bar) : List Word := if p = 0 then b.2.2.1 else b.2.2.2
theorem dropB_two {g1 g2 h : GF} : ∀ (bs : List Bar) (n c : Int),
    (∀ (t : Nat) (b : Bar), bs[t]? = some b → stays g1 (n + (t : Int)) b = true → ∀ p : Int, p = 0 ∨ p = 1 → ∀ i : Nat, i < (partOf p b).length → g1 (n + (t : Int)) p (i : Int) = false →
      h (c + ((dropB g1 n (bs.take t)).length : Int)) p ((kw (g1 (n + (t : Int)) p) 0 ((partOf p b).take i)).length : Int) = g2 (n + (t : Int)) p (i : Int)) →
    (∀ n p i, g1 n p i = true → g2 n p i = true) → dropB h c (dropB g1 n bs) = dropB g2 n bs
  | [], _, _, _, _ => rfl
  | b :: r, n, c, h1, h2 => by
    have e0 : ∀ t : Nat, n + ((t + 1 : Nat) : Int) = n + 1 + (t : Int) := fun t => by omega
    cases hs : stays g1 n b with
    | true =>
      have e1 : dropB g1 n (b :: r) = barOut g1 n b :: dropB g1 (n + 1) r := by
        show (if stays g1 n b = true then _ else _) = _
        rw [hs]; rfl
      have ih := dropB_two (g1 := g1) (g2 := g2) (h := h) r (n + 1) (c + 1) (fun t b' hb hst p hp i hi hf => by
        have := h1 (t + 1) b' (by simpa using hb)
        rw [e0] at this
        have := this hst p hp i hi hf
        rw [List.take_succ_cons] at this
        have e : (dropB g1 n (b :: r.take t)).length = (dropB g1 (n + 1) (r.take t)).length + 1 := by
          show (if stays g1 n b = true then _ else _ : List Bar).length = _
          rw [hs]; rfl
        rw [e] at this
        have e3 : c + (((dropB g1 (n + 1) (r.take t)).length + 1 : Nat) : Int) = c + 1 + ((dropB g1 (n + 1) (r.take t)).length : Int) := by omega
        rw [e3] at this
        exact this) h2
      have hk : ∀ p : Int, p = 0 ∨ p = 1 → kw (h c p) 0 (kw (g1 n p) 0 (partOf p b)) = kw (g2 n p) 0 (partOf p b) := fun p hp => by
        refine kw_two _ 0 0 (fun t ht hf => ?_) fun t ht hf => h2 _ _ _ hf
        have := h1 0 b rfl (by simpa using hs) p hp t ht (by simpa using hf)
        rw [List.take_zero] at this
        simpa [dropB] using this
      have k0 := hk 0 (.inl rfl)
      have k1 := hk 1 (.inr rfl)
      have p0 : partOf 0 b = b.2.2.1 := rfl
      have p1 : partOf 1 b = b.2.2.2 := rfl
      rw [p0] at k0
      rw [p1] at k1
      have e2 : stays h c (barOut g1 n b) = stays g2 n b := by
        show (if b.2.1 = c_loop then decide (0 < (kw (h c 0) 0 (kw (g1 n 0) 0 b.2.2.1)).length) else decide (0 < (kw (h c 1) 0 (kw (g1 n 1) 0 b.2.2.2)).length)) = _
        rw [k0, k1]; rfl
      have e3 : barOut h c (barOut g1 n b) = barOut g2 n b := by
        show (b.1, b.2.1, kw (h c 0) 0 (kw (g1 n 0) 0 b.2.2.1), kw (h c 1) 0 (kw (g1 n 1) 0 b.2.2.2)) = _
        rw [k0, k1]; rfl
      rw [e1]
      show (if stays h c (barOut g1 n b) = true then barOut h c (barOut g1 n b) :: dropB h (c + 1) (dropB g1 (n + 1) r) else dropB h (c + 1) (dropB g1 (n + 1) r)) = (if stays g2 n b = true then barOut g2 n b :: dropB g2 (n + 1) r else dropB g2 (n + 1) r)
      rw [e2, e3, ih]
    | false =>
      have e1 : dropB g1 n (b :: r) = dropB g1 (n + 1) r := by
        show (if stays g1 n b = true then _ else _) = _
        rw [hs]; rfl
      have ih := dropB_two (g1 := g1) (g2 := g2) (h := h) r (n + 1) c (fun t b' hb hst p hp i hi hf => by
        have := h1 (t + 1) b' (by simpa using hb)
        rw [e0] at this
        have := this hst p hp i hi hf
        rw [List.take_succ_cons] at this
        have e : dropB g1 n (b :: r.take t) = dropB g1 (n + 1) (r.take t) := by
          show (if stays g1 n b = true then _ else _ : List Bar) = _
          rw [hs]; rfl
        rw [e] at this
        exact this) h2
      have sub : ∀ (g1 g2 : Int → Bool) (ws : List Word) (i : Int), (∀ i, g1 i = true → g2 i = true) → kw g1 i ws = [] → kw g2 i ws = [] := fun g1 g2 ws => by
        induction ws with
        | nil => intro _ _ _; rfl
        | cons w r ih =>
          intro i hh hn
          cases hg : g1 i with
          | true =>
            have e : kw g1 i (w :: r) = kw g1 (i + 1) r := by
              show (if g1 i = true then _ else _) = _
              rw [hg]; rfl
            rw [e] at hn
            show (if g2 i = true then kw g2 (i + 1) r else w :: kw g2 (i + 1) r) = []
            rw [hh i hg]
            exact ih (i + 1) hh hn
          | false =>
            have e : kw g1 i (w :: r) = w :: kw g1 (i + 1) r := by
              show (if g1 i = true then _ else _) = _
              rw [hg]; rfl
            rw [e] at hn; cases hn
      have e2 : stays g2 n b = false := by
        unfold stays at hs ⊢
        by_cases hk : b.2.1 = c_loop
        · rw [if_pos hk] at hs ⊢
          have hs := of_decide_eq_false hs
          have := sub (g1 n 0) (g2 n 0) b.2.2.1 0 (fun i => h2 n 0 i) (List.eq_nil_of_length_eq_zero (by omega))
          rw [this]; rfl
        · rw [if_neg hk] at hs ⊢
          have hs := of_decide_eq_false hs
          have := sub (g1 n 1) (g2 n 1) b.2.2.2 0 (fun i => h2 n 1 i) (List.eq_nil_of_length_eq_zero (by omega))
          rw [this]; rfl
      have e3 : dropB g2 n (b :: r) = dropB g2 (n + 1) r := by
        show (if stays g2 n b = true then _ else _) = _
        rw [e2]; rfl
      rw [e1, e3, ih]
theorem dropB_lt {g : GF} {bs : List Bar} {n : Int} {a c : Nat} {b : Bar} (hac : a < c) (hc : c ≤ bs.length) (hb : bs[a]? = some b) (hs : stays g (n + (a : Int)) b = true) : (dropB g n (bs.take a)).length < (dropB g n (bs.take c)).length := by
  have key : ∀ m, a + 1 + m ≤ bs.length → (dropB g n (bs.take a)).length < (dropB g n (bs.take (a + 1 + m))).length := fun m => by
    induction m with
    | zero =>
      intro h
      rw [Nat.add_zero, List.take_add_one, hb, Option.toList_some, dropB_snoc, List.length_append, List.length_take, Nat.min_eq_left (by omega), hs]
      simp
    | succ m ih =>
      intro h
      have h1 := ih (by omega)
      rw [show a + 1 + (m + 1) = (a + 1 + m) + 1 by omega, List.take_add_one, List.getElem?_eq_getElem (by omega), Option.toList_some, dropB_snoc, List.length_append]
      omega
  have := key (c - a - 1) (by omega)
  rwa [show a + 1 + (c - a - 1) = c by omega] at this
theorem dropB_inj {g : GF} {bs : List Bar} {n : Int} {a c : Nat} {b b' : Bar} (ha : bs[a]? = some b) (hc : bs[c]? = some b') (sa : stays g (n + (a : Int)) b = true) (sc : stays g (n + (c : Int)) b' = true) (h : (dropB g n (bs.take a)).length = (dropB g n (bs.take c)).length) : a = c := by
  have h3 := (List.getElem?_eq_some_iff.mp ha).1
  have h4 := (List.getElem?_eq_some_iff.mp hc).1
  by_cases h1 : a < c
  · have := dropB_lt h1 (by omega) ha sa; omega
  · by_cases h2 : c < a
    · have := dropB_lt h2 (by omega) hc sc; omega
    · omega
def gOf (names : List Nm) : GF := fun n p i => decide ((n, p, i) ∈ names)
end DL
set_option maxHeartbeats 1000000
namespace DL
open PySem PySem.Spec PyProof.Rows L2
local macro_rules | `(tactic| walk_at "side") => `(tactic| first | assumption | omega | rfl | decide | (simp only [List.length_append, List.length_cons, List.length_nil, List.length_map]; omega) | (simp only [List.length_append, List.length_cons, List.length_nil, List.length_map] at *; omega))
local macro_rules | `(tactic| walk_at "more") => `(tactic| fail)
local macro_rules | `(tactic| walk_at "gv1") => `(tactic| first
  | refine Gv.bnd ?_ | refine Gv.bind ?_ | refine Gv.ret ?_
  | refine Gv.app (by walk_at "side") ?_ | refine Gv.add (by walk_at "side") ?_ | refine Gv.mapU (by walk_at "side") ?_ | refine Gv.mapO (by walk_at "side") ?_ | refine Gv.keep (by walk_at "side") ?_
  | refine Gv.rng1 (by walk_at "side") ?_ | refine Gv.put (by walk_at "side") ?_ | refine Gv.draw (by walk_at "side") fun _ _ _ _ => ?_ | refine Gv.shuffled (by walk_at "side") fun _ _ _ => ?_ | refine Gv.pick (by walk_at "side") fun _ _ _ => ?_)
local macro_rules | `(tactic| walk_at "gv") => `(tactic| repeat' (first | walk_at "gv1" | walk_at "more" | fail))
/-! P8: what the defs about words give. -/
structure OkBars (bs : List Bar) : Prop where
  len : bs.length ≤ 100
  part : ∀ b ∈ bs, b.2.2.1.length ≤ 100 ∧ b.2.2.2.length ≤ 100
  kind : ∀ b ∈ bs, b.2.1 = c_loop ∨ b.2.1 = c_shut
theorem left_words_eq {ws : List Word} {n p : Int} {names : List Nm} (h : ws.length ≤ 1000) : t_left_words ws n p names = some (kw (gOf names n p) 0 ws) := by
  apply Gv.eq
  unfold t_left_words
  refine Gv.bnd (Gv.bind (Gv.foldE (fun pre c => c = kw (gOf names n p) 0 pre) rfl ?_ fun c e => Gv.ret e))
  rintro pre x post c e rfl
  have hl := congrArg List.length e
  rw [List.length_append, List.length_cons] at hl
  have hk := kw_len (gOf names n p) pre 0
  have hs := kw_snoc (gOf names n p) x pre 0
  rw [Int.zero_add] at hs
  refine Gv.bind (Gv.nite (fun hn => Gv.bind (Gv.app (by omega) (Gv.ret (Gv.ret ?_)))) fun hn => Gv.ret (Gv.ret ?_))
  · rw [hs, show gOf names n p (pre.length : Int) = false from decide_eq_false hn]; rfl
  · rw [hs, show gOf names n p (pre.length : Int) = true from decide_eq_true hn]
    show kw (gOf names n p) 0 pre = kw (gOf names n p) 0 pre ++ []
    rw [List.append_nil]
theorem drop_eq {m : Mach} {names : List Nm} (h : OkBars m.2.2) : t_drop_words m names = some (m.1, m.2.1, dropB (gOf names) 0 m.2.2) := by
  have hlen := h.len
  apply Gv.eq
  unfold t_drop_words
  refine Gv.bnd (Gv.bind (Gv.foldE (fun pre c => c = dropB (gOf names) 0 pre) rfl ?_ fun c e => Gv.ret (by rw [e])))
  rintro pre x post c e rfl
  have hl := congrArg List.length e
  rw [List.length_append, List.length_cons] at hl
  have hx : x ∈ m.2.2 := by rw [e]; simp
  obtain ⟨p1, p2⟩ := h.part x hx
  have hk := dropB_len (gOf names) pre 0
  have hs := dropB_snoc (gOf names) x pre 0
  rw [Int.zero_add] at hs
  refine Gv.bind (Gv.of (left_words_eq (by dsimp only; omega)) (Gv.bnd (Gv.bind (Gv.of (left_words_eq (by dsimp only; omega)) (Gv.bnd ?_)))))
  have ne : c_shut ≠ c_loop := by decide +kernel
  dsimp only
  rcases h.kind x hx with hk' | hk'
  · by_cases hz : (kw (gOf names (pre.length : Int) 0) 0 x.2.2.1).length = 0
    · have e1 : stays (gOf names) (pre.length : Int) x = false := by
        unfold stays; rw [if_pos hk', hz]; rfl
      refine Gv.iteT (by rw [hk', hz]; simp) (Gv.ret ?_)
      rw [hs, e1]
      simp
    · have e1 : stays (gOf names) (pre.length : Int) x = true := by
        unfold stays; rw [if_pos hk']; exact decide_eq_true (by omega)
      refine Gv.iteF ?_ (Gv.iteF ?_ (Gv.bind (Gv.app (by omega) (Gv.ret ?_))))
      · rw [decide_eq_false (p := ((kw (gOf names (pre.length : Int) 0) 0 x.2.2.1).length : Int) = 0) (by omega), Bool.and_false]
      · rw [hk', decide_eq_false (Ne.symm ne), Bool.false_and]
      · rw [hs, e1]; rfl
  · by_cases hz : (kw (gOf names (pre.length : Int) 1) 0 x.2.2.2).length = 0
    · have e1 : stays (gOf names) (pre.length : Int) x = false := by
        unfold stays; rw [hk', if_neg ne, hz]; rfl
      refine Gv.iteF ?_ (Gv.iteT (by rw [hk', hz]; simp) (Gv.ret ?_))
      · rw [hk', decide_eq_false ne, Bool.false_and]
      · rw [hs, e1]; simp
    · have e1 : stays (gOf names) (pre.length : Int) x = true := by
        unfold stays; rw [hk', if_neg ne]; exact decide_eq_true (by omega)
      refine Gv.iteF ?_ (Gv.iteF ?_ (Gv.bind (Gv.app (by omega) (Gv.ret ?_))))
      · rw [hk', decide_eq_false ne, Bool.false_and]
      · rw [decide_eq_false (p := ((kw (gOf names (pre.length : Int) 1) 0 x.2.2.2).length : Int) = 0) (by omega), Bool.and_false]
      · rw [hs, e1]; rfl
theorem part_ix {b : Bar} {p : Int} (hp : p = 0 ∨ p = 1) : ixTail 2 [b.2.2.1, b.2.2.2] (2 + p) = some (partOf p b) := by
  rcases hp with rfl | rfl <;> rfl
theorem unnamed_eq {m : Mach} {t : Nat} {b : Bar} {p : Int} {gone : List Nm} (hb : m.2.2[t]? = some b) (hp : p = 0 ∨ p = 1) (hl : (partOf p b).length ≤ 1000) : t__law_unnamed m (t : Int) p gone = some (kw (gOf gone (t : Int) p) 0 (partOf p b)) := by
  apply Gv.eq
  unfold t__law_unnamed
  have hat : atI m.2.2 (t : Int) = some b := atI_ok (by omega) (by rw [Int.toNat_natCast]; exact hb)
  refine Gv.bind (Gv.of hat ?_)
  refine Gv.bind (Gv.of (part_ix hp) (Gv.bnd ?_))
  refine Gv.bind (Gv.rng1 (by omega) (Gv.bind ?_))
  refine Gv.comp (fun pre _ ys => ys = kw (gOf gone (t : Int) p) 0 ((partOf p b).take pre.length)) (by rw [intsT_len]; omega) rfl ?_ ?_
  · rintro pre x post c ys e rfl
    obtain ⟨h1, h2, _⟩ := intsT_split e
    rw [Int.zero_add] at h2
    subst h2
    have hlt : pre.length < (partOf p b).length := by omega
    have hs := kw_snoc (gOf gone (t : Int) p) (partOf p b)[pre.length] ((partOf p b).take pre.length) 0
    rw [Int.zero_add, List.length_take, Nat.min_eq_left (by omega)] at hs
    have et : (partOf p b).take (pre ++ [(pre.length : Int)]).length = (partOf p b).take pre.length ++ [(partOf p b)[pre.length]] := by
      rw [List.length_append]
      show (partOf p b).take (pre.length + 1) = _
      rw [List.take_add_one, List.getElem?_eq_getElem hlt]; rfl
    refine Gv.nite (fun hn => Gv.bind (Gv.of (atI_ok (x := (partOf p b)[pre.length]) (by omega) (by rw [Int.toNat_natCast]; exact List.getElem?_eq_getElem hlt)) (Gv.ret ?_))) fun hn => Gv.ret ?_
    · show kw _ 0 _ ++ [_] = _
      rw [et, hs, show gOf gone (t : Int) p (pre.length : Int) = false from decide_eq_false hn]; rfl
    · show kw _ 0 _ ++ [] = _
      rw [et, hs, show gOf gone (t : Int) p (pre.length : Int) = true from decide_eq_true hn]; rfl
  · rintro c ys rfl
    refine Gv.ret ?_
    show kw _ 0 _ = _
    rw [intsT_len, Int.toNat_natCast, List.take_length]
theorem stays_eq {m : Mach} {t : Nat} {b : Bar} {gone : List Nm} (h : OkBars m.2.2) (hb : m.2.2[t]? = some b) : t__law_stays m (t : Int) gone = some (stays (gOf gone) (t : Int) b) := by
  obtain ⟨p1, p2⟩ := h.part b (List.mem_of_getElem? hb)
  apply Gv.eq
  unfold t__law_stays
  have hat : atI m.2.2 (t : Int) = some b := atI_ok (by omega) (by rw [Int.toNat_natCast]; exact hb)
  refine Gv.bind (Gv.of hat (Gv.bnd ?_))
  by_cases hk : b.2.1 = c_loop
  · rw [if_pos (decide_eq_true hk)]
    refine Gv.bind (Gv.of (unnamed_eq (p := 0) hb (.inl rfl) (by show b.2.2.1.length ≤ 1000; omega)) (Gv.ret ?_))
    unfold stays
    rw [if_pos hk]
    show decide ((0 : Int) < ((kw (gOf gone (t : Int) 0) 0 b.2.2.1).length : Int)) = _
    simp
  · rw [if_neg (by rw [decide_eq_false hk]; exact Bool.false_ne_true)]
    refine Gv.bind (Gv.of (unnamed_eq (p := 1) hb (.inr rfl) (by show b.2.2.2.length ≤ 1000; omega)) (Gv.ret ?_))
    unfold stays
    rw [if_neg hk]
    show decide ((0 : Int) < ((kw (gOf gone (t : Int) 1) 0 b.2.2.2).length : Int)) = _
    simp
theorem left_eq {m : Mach} {gone : List Nm} (h : OkBars m.2.2) : t__law_left m gone = some (m.1, m.2.1, dropB (gOf gone) 0 m.2.2) := by
  have hlen := h.len
  apply Gv.eq
  unfold t__law_left
  refine Gv.bnd (Gv.bind (Gv.rng1 (by omega) (Gv.bind (Gv.foldR (fun i c => c = dropB (gOf gone) 0 (m.2.2.take i)) rfl ?_ fun c e => Gv.ret ?_))))
  · rintro i c hi rfl
    rw [Int.toNat_natCast] at hi
    have hb := List.getElem?_eq_getElem hi
    obtain ⟨p1, p2⟩ := h.part _ (List.getElem_mem hi)
    have hs := dropB_snoc (gOf gone) m.2.2[i] (m.2.2.take i) 0
    rw [Int.zero_add, List.length_take, Nat.min_eq_left (by omega)] at hs
    have hk := dropB_len (gOf gone) (m.2.2.take i) 0
    rw [List.length_take] at hk
    have hat : atI m.2.2 (i : Int) = some m.2.2[i] := atI_ok (by omega) (by rw [Int.toNat_natCast]; exact hb)
    refine Gv.bind (Gv.of (stays_eq h hb) (Gv.bind (Gv.ite (fun hst => ?_) fun hst => Gv.ret (Gv.ret ?_))))
    · refine Gv.bind (Gv.of (unnamed_eq (p := 0) hb (.inl rfl) (by show (m.2.2[i]).2.2.1.length ≤ 1000; omega)) (Gv.bnd ?_))
      refine Gv.bind (Gv.of (unnamed_eq (p := 1) hb (.inr rfl) (by show (m.2.2[i]).2.2.2.length ≤ 1000; omega)) (Gv.bnd ?_))
      refine Gv.bind (Gv.of hat (Gv.bind (Gv.of hat ?_)))
      refine Gv.bind (Gv.app (by omega) (Gv.ret (Gv.ret ?_)))
      rw [List.take_add_one, hb, Option.toList_some, hs, hst]; rfl
    · rw [List.take_add_one, hb, Option.toList_some, hs, hst]
      simp
  · rw [e, Int.toNat_natCast, List.take_length]
end DL
set_option maxHeartbeats 1000000
namespace DL
open PySem PySem.Spec PyProof.Rows L2
local macro_rules | `(tactic| walk_at "side") => `(tactic| first | assumption | omega | rfl | decide | (simp only [List.length_append, List.length_cons, List.length_nil, List.length_map]; omega) | (simp only [List.length_append, List.length_cons, List.length_nil, List.length_map] at *; omega))
local macro_rules | `(tactic| walk_at "more") => `(tactic| fail)
local macro_rules | `(tactic| walk_at "gv1") => `(tactic| first
  | refine Gv.bnd ?_ | refine Gv.bind ?_ | refine Gv.ret ?_
  | refine Gv.app (by walk_at "side") ?_ | refine Gv.add (by walk_at "side") ?_ | refine Gv.mapU (by walk_at "side") ?_ | refine Gv.mapO (by walk_at "side") ?_ | refine Gv.keep (by walk_at "side") ?_
  | refine Gv.rng1 (by walk_at "side") ?_ | refine Gv.put (by walk_at "side") ?_ | refine Gv.draw (by walk_at "side") fun _ _ _ _ => ?_ | refine Gv.shuffled (by walk_at "side") fun _ _ _ => ?_ | refine Gv.pick (by walk_at "side") fun _ _ _ => ?_)
local macro_rules | `(tactic| walk_at "gv") => `(tactic| repeat' (first | walk_at "gv1" | walk_at "more" | fail))
/-! P9: the names of words, and where they go. -/
def nmB (n : Int) (b : Bar) : List Nm := (intsT 0 b.2.2.1.length).map (fun i => (n, (0 : Int), i)) ++ (intsT 0 b.2.2.2.length).map (fun i => (n, (1 : Int), i))
def namesOf : Int → List Bar → List Nm
  | _, [] => []
  | n, b :: r => nmB n b ++ namesOf (n + 1) r
theorem namesOf_snoc (b : Bar) : ∀ (bs : List Bar) (n : Int), namesOf n (bs ++ [b]) = namesOf n bs ++ nmB (n + (bs.length : Int)) b
  | [], n => by
    show nmB n b ++ [] = [] ++ _
    rw [List.append_nil, List.nil_append, List.length_nil]; simp
  | x :: r, n => by
    show nmB n x ++ namesOf (n + 1) (r ++ [b]) = (nmB n x ++ namesOf (n + 1) r) ++ _
    rw [namesOf_snoc b r (n + 1), List.append_assoc]
    have e : n + 1 + (r.length : Int) = n + ((x :: r).length : Int) := by rw [List.length_cons]; omega
    rw [e]
theorem nmB_len (n : Int) (b : Bar) : (nmB n b).length = b.2.2.1.length + b.2.2.2.length := by
  unfold nmB
  rw [List.length_append, List.length_map, List.length_map, intsT_len, intsT_len]
theorem word_names_eq {m : Mach} (h : OkBars m.2.2) : t_word_names m = some (namesOf 0 m.2.2) := by
  have hlen := h.len
  apply Gv.eq
  unfold t_word_names
  refine Gv.bnd (Gv.bind (Gv.foldE (fun pre c => c = namesOf 0 pre ∧ c.length ≤ 200 * pre.length) ⟨rfl, Nat.zero_le _⟩ ?_ fun c e => Gv.ret e.1))
  rintro pre x post c e ⟨rfl, hcl⟩
  have hl := congrArg List.length e
  rw [List.length_append, List.length_cons] at hl
  obtain ⟨p1, p2⟩ := h.part x (by rw [e]; simp)
  have hs := namesOf_snoc x pre 0
  rw [Int.zero_add] at hs
  dsimp only
  refine Gv.bind (Gv.rng1 (by omega) (Gv.bind (Gv.foldR (fun i c => c = namesOf 0 pre ++ (intsT 0 i).map (fun i => ((pre.length : Int), (0 : Int), i))) (by simp [intsT]) ?_ ?_)))
  · rintro i c hi rfl
    rw [Int.toNat_natCast] at hi
    refine Gv.bind (Gv.app ?_ (Gv.ret ?_))
    · rw [List.length_append, List.length_map, intsT_len]; omega
    · rw [intsT_succ, List.map_append, ← List.append_assoc, Int.zero_add]; rfl
  · rintro c rfl
    rw [Int.toNat_natCast]
    refine Gv.bind (Gv.rng1 (by omega) (Gv.bind (Gv.foldR (fun i c => c = namesOf 0 pre ++ (intsT 0 x.2.2.1.length).map (fun i => ((pre.length : Int), (0 : Int), i)) ++ (intsT 0 i).map (fun i => ((pre.length : Int), (1 : Int), i))) (by simp [intsT]) ?_ ?_)))
    · rintro i c hi rfl
      rw [Int.toNat_natCast] at hi
      refine Gv.bind (Gv.app ?_ (Gv.ret ?_))
      · rw [List.length_append, List.length_append, List.length_map, List.length_map, intsT_len, intsT_len]; omega
      · rw [intsT_succ, List.map_append, ← List.append_assoc, Int.zero_add]; rfl
    · rintro c rfl
      rw [Int.toNat_natCast]
      refine Gv.ret ⟨?_, ?_⟩
      · rw [hs, List.append_assoc]; rfl
      · rw [List.length_append, List.length_append, List.length_append, List.length_map, List.length_map, intsT_len, intsT_len]
        show _ ≤ 200 * (pre.length + 1)
        omega
theorem named_eq {m : Mach} (h : OkBars m.2.2) : t__law_named m = some (namesOf 0 m.2.2) := by
  have hlen := h.len
  apply Gv.eq
  unfold t__law_named
  refine Gv.bnd (Gv.bind (Gv.rng1 (by omega) (Gv.bind (Gv.foldR (fun i c => c = namesOf 0 (m.2.2.take i) ∧ c.length ≤ 200 * i) ⟨rfl, Nat.zero_le _⟩ ?_ fun c e => Gv.ret ?_))))
  rotate_left
  · rw [e.1, Int.toNat_natCast, List.take_length]
  rintro t c ht ⟨rfl, hcl⟩
  rw [Int.toNat_natCast] at ht
  have hb := List.getElem?_eq_getElem ht
  obtain ⟨p1, p2⟩ := h.part _ (List.getElem_mem ht)
  have hs := namesOf_snoc m.2.2[t] (m.2.2.take t) 0
  rw [Int.zero_add, List.length_take, Nat.min_eq_left (by omega)] at hs
  have hat : atI m.2.2 (t : Int) = some m.2.2[t] := atI_ok (by omega) (by rw [Int.toNat_natCast]; exact hb)
  generalize m.2.2[t] = b at *
  have inner : ∀ (p : Int) (c : List Nm), p = 0 ∨ p = 1 → c.length ≤ 30000 → Gv ((atI m.2.2 (t : Int)).bind fun r9 => (ixTail 2 [r9.2.2.1, r9.2.2.2] ((2 : Int) + p)).bind fun r10 => (rng1 ((r10).length : Int)).bind fun ks11 => (foldT (fun (c12 : (List (Int × Int × Int))) index14 => (appO c12 ((t : Int), p, index14)).bind fun found15 => some found15) ks11 c).bind fun c12 => some c12) fun c' => c' = c ++ (intsT 0 (partOf p b).length).map (fun i => ((t : Int), p, i)) := fun p c hp hc => by
    have hpl : (partOf p b).length ≤ 100 := by rcases hp with rfl | rfl; exact p1; exact p2
    refine Gv.bind (Gv.of hat (Gv.bind (Gv.of (part_ix hp) ?_)))
    refine Gv.bind (Gv.rng1 (by omega) (Gv.bind (Gv.foldR (fun i c' => c' = c ++ (intsT 0 i).map (fun i => ((t : Int), p, i))) (by simp [intsT]) ?_ ?_)))
    · rintro i c' hi rfl
      rw [Int.toNat_natCast] at hi
      refine Gv.bind (Gv.app ?_ (Gv.ret ?_))
      · rw [List.length_append, List.length_map, intsT_len]; omega
      · rw [intsT_succ, List.map_append, ← List.append_assoc, Int.zero_add]; rfl
    · rintro c' rfl
      rw [Int.toNat_natCast]
      exact Gv.ret rfl
  have hcl' : (namesOf 0 (m.2.2.take t)).length ≤ 20000 := by omega
  refine Gv.bind (Gv.mono (P := fun c' => c' = namesOf 0 (m.2.2.take t) ++ nmB (t : Int) b) ?_ ?_)
  · obtain ⟨c1, e1, rfl⟩ := inner 0 (namesOf 0 (m.2.2.take t)) (.inl rfl) (by omega)
    obtain ⟨c2, e2, rfl⟩ := inner 1 (namesOf 0 (m.2.2.take t) ++ (intsT 0 (partOf 0 b).length).map (fun i => ((t : Int), (0 : Int), i))) (.inr rfl) (by rw [List.length_append, List.length_map, intsT_len]; show _ + b.2.2.1.length ≤ _; omega)
    refine ⟨_, ?_, rfl⟩
    unfold foldT
    rw [e1, Option.bind_some]
    unfold foldT
    rw [e2, Option.bind_some]
    unfold foldT
    rw [List.append_assoc]; rfl
  · rintro c' rfl
    refine Gv.ret ⟨?_, ?_⟩
    · rw [List.take_add_one, hb, Option.toList_some, hs]
    · rw [List.length_append, nmB_len]; omega
theorem mem_names {bs : List Bar} {nm : Nm} : nm ∈ namesOf 0 bs ↔ ∃ (t : Nat) (b : Bar) (p : Int) (i : Nat), bs[t]? = some b ∧ (p = 0 ∨ p = 1) ∧ i < (partOf p b).length ∧ nm = ((t : Int), p, (i : Int)) := by
  have hI : ∀ (n : Nat) (x : Int), x ∈ intsT 0 n ↔ ∃ i : Nat, i < n ∧ x = (i : Int) := fun n x => by
    unfold intsT
    rw [List.mem_map]
    constructor
    · rintro ⟨i, hi, rfl⟩
      exact ⟨i, List.mem_range.mp hi, by omega⟩
    · rintro ⟨i, hi, rfl⟩
      exact ⟨i, List.mem_range.mpr hi, by omega⟩
  have hB : ∀ (n : Int) (b : Bar) (nm : Nm), nm ∈ nmB n b ↔ ∃ (p : Int) (i : Nat), (p = 0 ∨ p = 1) ∧ i < (partOf p b).length ∧ nm = (n, p, (i : Int)) := fun n b nm => by
    unfold nmB
    rw [List.mem_append, List.mem_map, List.mem_map]
    constructor
    · rintro (⟨x, hx, rfl⟩ | ⟨x, hx, rfl⟩)
      · obtain ⟨i, hi, rfl⟩ := (hI _ _).mp hx
        exact ⟨0, i, .inl rfl, hi, rfl⟩
      · obtain ⟨i, hi, rfl⟩ := (hI _ _).mp hx
        exact ⟨1, i, .inr rfl, hi, rfl⟩
    · rintro ⟨p, i, rfl | rfl, hi, rfl⟩
      · exact .inl ⟨_, (hI _ _).mpr ⟨i, hi, rfl⟩, rfl⟩
      · exact .inr ⟨_, (hI _ _).mpr ⟨i, hi, rfl⟩, rfl⟩
  have key : ∀ (bs : List Bar) (n : Nat) (nm : Nm), nm ∈ namesOf (n : Int) bs ↔ ∃ (t : Nat) (b : Bar) (p : Int) (i : Nat), bs[t]? = some b ∧ (p = 0 ∨ p = 1) ∧ i < (partOf p b).length ∧ nm = (((n + t : Nat) : Int), p, (i : Int)) := fun bs => by
    induction bs with
    | nil =>
      intro n nm
      constructor
      · intro h; cases h
      · rintro ⟨t, b, p, i, h, _⟩; simp at h
    | cons x r ih =>
      intro n nm
      show nm ∈ nmB n x ++ namesOf ((n : Int) + 1) r ↔ _
      rw [List.mem_append, hB, show (n : Int) + 1 = ((n + 1 : Nat) : Int) by omega, ih]
      constructor
      · rintro (⟨p, i, hp, hi, rfl⟩ | ⟨t, b, p, i, hb, hp, hi, rfl⟩)
        · exact ⟨0, x, p, i, rfl, hp, hi, rfl⟩
        · exact ⟨t + 1, b, p, i, hb, hp, hi, by rw [show n + 1 + t = n + (t + 1) by omega]⟩
      · rintro ⟨t, b, p, i, hb, hp, hi, rfl⟩
        cases t with
        | zero => cases hb; exact .inl ⟨p, i, hp, hi, rfl⟩
        | succ t => exact .inr ⟨t, b, p, i, hb, hp, hi, by rw [show n + (t + 1) = n + 1 + t by omega]⟩
  have := key bs 0 nm
  simpa using this
/-- where a name goes when others are left out -/
theorem moved_eq {m : Mach} {gone : List Nm} {t : Nat} {b : Bar} {p : Int} {i : Nat} (h : OkBars m.2.2) (hb : m.2.2[t]? = some b) (hp : p = 0 ∨ p = 1) (hi : i < (partOf p b).length) :
    t__law_moved m gone ((t : Int), p, (i : Int)) = some (if gOf gone (t : Int) p (i : Int) = true ∨ stays (gOf gone) (t : Int) b = false then none else some (((dropB (gOf gone) 0 (m.2.2.take t)).length : Int), p, ((kw (gOf gone (t : Int) p) 0 ((partOf p b).take i)).length : Int))) := by
  have hlen := h.len
  obtain ⟨p1, p2⟩ := h.part b (List.mem_of_getElem? hb)
  have hpl : (partOf p b).length ≤ 100 := by rcases hp with rfl | rfl; exact p1; exact p2
  have htl := (List.getElem?_eq_some_iff.mp hb).1
  apply Gv.eq
  unfold t__law_moved
  refine Gv.bnd ?_
  dsimp only
  by_cases hg : ((t : Int), p, (i : Int)) ∈ gone
  · refine Gv.bind (Gv.iteT (decide_eq_true hg) (Gv.ret (Gv.iteT rfl (Gv.ret ?_))))
    rw [if_pos (.inl (decide_eq_true hg))]
  refine Gv.bind (Gv.iteF (decide_eq_false hg) (Gv.bind (Gv.of (stays_eq h hb) (Gv.ret ?_))))
  have hg' : ¬ gOf gone (t : Int) p (i : Int) = true := by
    show ¬ decide _ = true
    rw [decide_eq_false hg]; exact Bool.false_ne_true
  cases hs : stays (gOf gone) (t : Int) b with
  | false =>
    refine Gv.iteT rfl (Gv.ret ?_)
    rw [if_pos (.inr rfl)]
  | true =>
    refine Gv.iteF rfl ?_
    refine Gv.bind (Gv.rng1 (by omega) (Gv.bind (Gv.comp (fun pre _ ys => ys.length = (dropB (gOf gone) 0 (m.2.2.take pre.length)).length) (by rw [intsT_len]; omega) rfl ?_ ?_)))
    · rintro pre x post c ys e hy
      obtain ⟨h1, h2, _⟩ := intsT_split e
      rw [Int.zero_add] at h2
      subst h2
      rw [Int.toNat_natCast] at h1
      have hlt : pre.length < m.2.2.length := by omega
      have hs2 := dropB_snoc (gOf gone) m.2.2[pre.length] (m.2.2.take pre.length) 0
      rw [Int.zero_add, List.length_take, Nat.min_eq_left (by omega)] at hs2
      have et : m.2.2.take (pre ++ [(pre.length : Int)]).length = m.2.2.take pre.length ++ [m.2.2[pre.length]] := by
        rw [List.length_append]
        show m.2.2.take (pre.length + 1) = _
        rw [List.take_add_one, List.getElem?_eq_getElem hlt]; rfl
      refine Gv.bind (Gv.of (stays_eq h (List.getElem?_eq_getElem hlt)) (Gv.ite (fun hst => Gv.ret ?_) fun hst => Gv.ret ?_))
      · rw [et, hs2, hst]
        simp [hy]
      · rw [et, hs2, hst]
        simp [hy]
    · rintro c ys hy
      rw [intsT_len, Int.toNat_natCast] at hy
      refine Gv.bnd (Gv.bind (Gv.rng1 (by omega) (Gv.bind (Gv.mapO (by rw [intsT_len]; omega) (Gv.ret ?_)))))
      rw [if_neg (by rintro (z | z); exact hg' z; cases z), Int.toNat_natCast]
      have hf : ∀ n, n ≤ i → ((intsT 0 n).filter fun o => !decide (((t : Int), p, o) ∈ gone)).length = (kw (gOf gone (t : Int) p) 0 ((partOf p b).take n)).length := fun n => by
        induction n with
        | zero => intro _; rfl
        | succ n ih =>
          intro hn
          have hlt : n < (partOf p b).length := by omega
          have hs3 := kw_snoc (gOf gone (t : Int) p) (partOf p b)[n] ((partOf p b).take n) 0
          rw [Int.zero_add, List.length_take, Nat.min_eq_left (by omega)] at hs3
          rw [intsT_succ, List.filter_append, List.length_append, ih (by omega), List.take_add_one, List.getElem?_eq_getElem hlt, Option.toList_some, hs3, List.length_append, Int.zero_add]
          by_cases hgn : ((t : Int), p, (n : Int)) ∈ gone
          · rw [show gOf gone (t : Int) p (n : Int) = true from decide_eq_true hgn]
            simp [hgn]
          · rw [show gOf gone (t : Int) p (n : Int) = false from decide_eq_false hgn]
            simp [hgn]
      have := hf i (Nat.le_refl _)
      rw [List.length_map, this, hy]
end DL
set_option maxHeartbeats 1000000
namespace DL
open PySem PySem.Spec PyProof.Rows L2
local macro_rules | `(tactic| walk_at "side") => `(tactic| first | assumption | omega | rfl | decide | (simp only [List.length_append, List.length_cons, List.length_nil, List.length_map]; omega) | (simp only [List.length_append, List.length_cons, List.length_nil, List.length_map] at *; omega))
local macro_rules | `(tactic| walk_at "more") => `(tactic| fail)
local macro_rules | `(tactic| walk_at "gv1") => `(tactic| first
  | refine Gv.bnd ?_ | refine Gv.bind ?_ | refine Gv.ret ?_
  | refine Gv.app (by walk_at "side") ?_ | refine Gv.add (by walk_at "side") ?_ | refine Gv.mapU (by walk_at "side") ?_ | refine Gv.mapO (by walk_at "side") ?_ | refine Gv.keep (by walk_at "side") ?_
  | refine Gv.rng1 (by walk_at "side") ?_ | refine Gv.put (by walk_at "side") ?_ | refine Gv.draw (by walk_at "side") fun _ _ _ _ => ?_ | refine Gv.shuffled (by walk_at "side") fun _ _ _ => ?_ | refine Gv.pick (by walk_at "side") fun _ _ _ => ?_)
local macro_rules | `(tactic| walk_at "gv") => `(tactic| repeat' (first | walk_at "gv1" | walk_at "more" | fail))
/-! P10: law_k07_words_dropped: drawn words, drawn machines. -/
theorem plain_I (n : Nat) (i : Int) : plainN n (zI i) = true := by cases n <;> rfl
theorem plain_S (n : Nat) (s : TX) : plainN n (zS s) = true := by
  have h := s.ok
  unfold okS at h
  rw [Bool.and_eq_true] at h
  cases n <;> exact h.2
theorem plain_T {α : Type} {e : α → D} {n : Nat} {xs : List α} (hl : xs.length ≤ 1000) (h : ∀ x ∈ xs, plainN n (e x) = true) : plainN (n + 1) (zT e xs) = true := by
  show (decide ((xs.map e).length ≤ 1000) && (xs.map e).all (plainN n)) = true
  rw [List.length_map, decide_eq_true hl, Bool.true_and, List.all_eq_true]
  intro d m
  obtain ⟨x, mx, rfl⟩ := List.mem_map.mp m
  exact h x mx
structure OkWord (w : Word) : Prop where
  fs : w.1.length ≤ 100
  f : ∀ f ∈ w.1, f.length ≤ 100
  ls : w.2.length ≤ 100
theorem plain_word {w : Word} (h : OkWord w) (n : Nat) : plainN (n + 3) (eWord w) = true := by
  have h1 : plainN (n + 2) (zT (zT zS) w.1) = true := plain_T (by have := h.fs; omega) fun f mf => plain_T (by have := h.f f mf; omega) fun s _ => plain_S _ s
  have h2 : plainN (n + 2) (zT zS w.2) = true := plain_T (by have := h.ls; omega) fun s _ => plain_S _ s
  show (decide (2 ≤ 1000) && [zT (zT zS) w.1, zT zS w.2].all (plainN (n + 2))) = true
  simp [h1, h2]
structure OkBar (b : Bar) : Prop where
  chain : b.2.2.1.length ≤ 8
  closing : b.2.2.2.length ≤ 8
  w1 : ∀ w ∈ b.2.2.1, OkWord w
  w2 : ∀ w ∈ b.2.2.2, OkWord w
  kind : b.2.1 = c_loop ∨ b.2.1 = c_shut
theorem plain_bar {b : Bar} (h : OkBar b) (n : Nat) : plainN (n + 5) (eBar b) = true := by
  have h1 : plainN (n + 4) (zT eWord b.2.2.1) = true := plain_T (by have := h.chain; omega) fun w mw => plain_word (h.w1 w mw) n
  have h2 : plainN (n + 4) (zT eWord b.2.2.2) = true := plain_T (by have := h.closing; omega) fun w mw => plain_word (h.w2 w mw) n
  show (decide (4 ≤ 1000) && [zS b.1, zS b.2.1, zT eWord b.2.2.1, zT eWord b.2.2.2].all (plainN (n + 4))) = true
  simp [h1, h2, plain_S]
def OkBs (bs : List Bar) : Prop := bs.length ≤ 4 ∧ ∀ b ∈ bs, OkBar b
theorem OkBs.bars {bs : List Bar} (h : OkBs bs) : OkBars bs := ⟨by have := h.1; omega, fun b m => ⟨by have := (h.2 b m).chain; omega, by have := (h.2 b m).closing; omega⟩, fun b m => (h.2 b m).kind⟩
theorem plain_mach {m : Mach} (hl : m.2.1.length ≤ 50) (h : OkBs m.2.2) : plainN 10 (eMach m) = true := by
  have h1 : plainN 9 (eLetters m.2.1) = true := plain_T (by omega) fun p _ => by
    show (decide (2 ≤ 1000) && [zS p.1, zS p.2].all (plainN 7)) = true
    simp [plain_S]
  have h2 : plainN 9 (zT eBar m.2.2) = true := plain_T (by have := h.1; omega) fun b mb => plain_bar (h.2 b mb) 3
  show (decide (3 ≤ 1000) && [zS m.1, eLetters m.2.1, zT eBar m.2.2].all (plainN 9)) = true
  simp [h1, h2, plain_S]
theorem same_of {a b : ID} (h : a.d = b.d) (hp : plainN 10 a.d = true) : t__law_same a b = some true := by
  unfold t__law_same
  rw [← h, hp, eqv_self 10 _ hp]; rfl
theorem kw_mem (g : Int → Bool) : ∀ (ws : List Word) (i : Int) (w : Word), w ∈ kw g i ws → w ∈ ws
  | [], _, _, h => by cases h
  | x :: r, i, w, h => by
    unfold kw at h
    split at h
    · exact List.mem_cons_of_mem _ (kw_mem g r _ w h)
    · rcases List.mem_cons.mp h with rfl | h
      · exact List.mem_cons_self
      · exact List.mem_cons_of_mem _ (kw_mem g r _ w h)
theorem barOut_ok {g : GF} {n : Int} {b : Bar} (h : OkBar b) : OkBar (barOut g n b) :=
  ⟨Nat.le_trans (kw_len _ _ _) h.chain, Nat.le_trans (kw_len _ _ _) h.closing, fun w m => h.w1 w (kw_mem _ _ _ _ m), fun w m => h.w2 w (kw_mem _ _ _ _ m), h.kind⟩
theorem dropB_ok {g : GF} : ∀ {bs : List Bar} (n : Int), (∀ b ∈ bs, OkBar b) → ∀ b ∈ dropB g n bs, OkBar b
  | [], _, _, b, m => by cases m
  | x :: r, n, h, b, m => by
    unfold dropB at m
    split at m
    · rcases List.mem_cons.mp m with rfl | m
      · exact barOut_ok (h x List.mem_cons_self)
      · exact dropB_ok (n + 1) (fun b mb => h b (List.mem_cons_of_mem _ mb)) b m
    · exact dropB_ok (n + 1) (fun b mb => h b (List.mem_cons_of_mem _ mb)) b m
theorem dropB_okBs {g : GF} {bs : List Bar} (h : OkBs bs) : OkBs (dropB g 0 bs) := ⟨Nat.le_trans (dropB_len g bs 0) h.1, dropB_ok 0 h.2⟩
theorem namesOf_len : ∀ {bs : List Bar} (n : Int), (∀ b ∈ bs, OkBar b) → (namesOf n bs).length ≤ 16 * bs.length
  | [], _, _ => Nat.zero_le _
  | x :: r, n, h => by
    have := namesOf_len (bs := r) (n + 1) fun b mb => h b (List.mem_cons_of_mem _ mb)
    have h1 := (h x List.mem_cons_self).chain
    have h2 := (h x List.mem_cons_self).closing
    show (nmB n x ++ namesOf (n + 1) r).length ≤ _
    rw [List.length_append, nmB_len, List.length_cons]
    omega
theorem plain_names {bs : List Bar} (h : OkBs bs) : plainN 10 (zT (z3 zI zI zI) (namesOf 0 bs)) = true := plain_T (by
  have := namesOf_len (bs := bs) 0 h.2
  have := h.1
  omega) fun nm _ => by
    show (decide (3 ≤ 1000) && [zI nm.1, zI nm.2.1, zI nm.2.2].all (plainN 8)) = true
    simp [plain_I]
/-! drawn words -/
theorem gv_sieve {d : DSt} {l : Letters} {P : List TX × DSt → Prop} (hl : 0 < l.length ∧ l.length ≤ 50) (h : ∀ f d', f.length ≤ 50 → P (f, d')) : Gv (t__law_sieve d l) P := by
  unfold t__law_sieve
  refine Gv.bind (Gv.draw (by omega) fun v d1 _ _ => Gv.ite (fun _ => ?_) fun _ => ?_)
  · exact Gv.bind (Gv.mapU (by omega) (Gv.ret (h _ _ (by rw [List.length_map]; omega))))
  · refine Gv.bind (Gv.mapU (by omega) (Gv.bind (Gv.some_ (by rw [List.length_map]; omega) fun ys d2 _ _ => Gv.bnd (Gv.bind (Gv.mapO (by omega) (Gv.ret (h _ _ ?_)))))))
    rw [List.length_map]
    exact Nat.le_trans (List.length_filter_le _ _) hl.2
theorem gv_filter {d : DSt} {l : Letters} {x : TX} {b : Bool} {P : List TX × DSt → Prop} (hl : 0 < l.length ∧ l.length ≤ 50) (h : ∀ f d', f.length ≤ 50 → P (f, d')) : Gv (t__law_filter_for d l x b) P := by
  unfold t__law_filter_for
  refine Gv.bnd (Gv.cut (fun _ => True) (Gv.ite (fun _ => Gv.bnd (Gv.ret trivial)) fun _ => Gv.ret trivial) fun c _ => ?_)
  refine Gv.cut (fun b => b.1 = false → (getT c x).isSome = true) ?_ ?_
  · cases hg : (getT c x).isSome with
    | false => exact Gv.iteT rfl (Gv.ret fun z => by cases z)
    | true => exact Gv.iteF rfl (Gv.bind (Gv.draw (by omega) fun v d1 _ _ => Gv.ret fun _ => rfl))
  · rintro ⟨b1, d1⟩ hb
    refine Gv.ite (fun _ => Gv.bind (gv_sieve hl fun f d2 hf => Gv.ret (h _ _ hf))) fun hb1 => ?_
    obtain ⟨rs, hr⟩ := Option.isSome_iff_exists.mp (hb hb1)
    refine Gv.bind (Gv.comp (fun pre _ ys => ys.length ≤ pre.length) (by omega) (Nat.le_refl _) ?_ ?_)
    · rintro pre y post c' ys e hy
      refine Gv.bind (Gv.of hr (Gv.ite (fun _ => Gv.ret ?_) fun _ => Gv.ret ?_))
      · simp only [Option.toList_some, List.length_append, List.length_cons, List.length_nil]; omega
      · simp only [Option.toList_none, List.length_append, List.length_cons, List.length_nil]; omega
    · rintro c' ys hy
      exact Gv.bnd (Gv.ite (fun _ => Gv.bind (gv_sieve hl fun f d2 hf => Gv.ret (h _ _ hf))) fun _ => Gv.ret (h _ _ (by dsimp only; omega)))
theorem labels_eq : t__law_labels = some [c_then, c_seen, c_over, c_past, c_own, c_addr, c_data, c_ctrl] := rfl
theorem gv_word {d : DSt} {l : Letters} {P : Word × DSt → Prop} (hl : 0 < l.length ∧ l.length ≤ 50) (h : ∀ w d', OkWord w → P (w, d')) : Gv (t__law_word d l 4) P := by
  unfold t__law_word
  refine Gv.bnd (Gv.cut (fun _ => True) (Gv.ite (fun _ => Gv.bind (Gv.draw (by omega) fun v d1 _ _ => Gv.ret trivial)) fun _ => Gv.ret trivial) fun b _ => ?_)
  refine Gv.cut (fun c => 1 ≤ c.2 ∧ c.2 ≤ 4) (Gv.ite (fun _ => Gv.bind (Gv.draw (by omega) fun v d1 h0 h1 => Gv.bnd (Gv.ret ⟨by dsimp only; omega, by dsimp only; omega⟩))) fun _ => Gv.ret ⟨by dsimp only; omega, by dsimp only; omega⟩) ?_
  rintro ⟨d1, n⟩ ⟨hn1, hn2⟩
  dsimp only at hn1 hn2 ⊢
  refine Gv.bind (Gv.rng1 (by omega) (Gv.bind (Gv.comp (fun pre _ ys => ys.length = pre.length) (by rw [intsT_len]; omega) rfl ?_ ?_)))
  · rintro pre x post c ys e hy
    refine Gv.bind (Gv.of labels_eq (Gv.bind (Gv.add (by simp) (Gv.bind (Gv.pick (by simp) fun y d2 _ => Gv.ret ?_)))))
    simp only [Option.toList_some, List.length_append, List.length_cons, List.length_nil]; omega
  · rintro d2 labels hy
    rw [intsT_len] at hy
    refine Gv.bnd (Gv.bind (Gv.at (by omega) (by dsimp only; omega) fun y _ => Gv.bind (gv_filter hl fun f d3 hf => Gv.bnd ?_)))
    dsimp only
    refine Gv.bind (Gv.fold (fun pre c => c.2.length = pre.length + 1 ∧ ∀ f ∈ c.2, f.length ≤ 50) ⟨rfl, fun f' m => by rw [List.mem_singleton.mp m]; exact hf⟩ ?_ ?_)
    · rintro pre x post ⟨d4, fs⟩ e ⟨g1, g2⟩
      have hl2 := congrArg List.length e
      rw [List.length_append, List.length_cons] at hl2
      dsimp only at g1 g2 ⊢
      refine Gv.bind (gv_filter hl fun f' d5 hf' => Gv.bind (Gv.app (by omega) (Gv.ret ⟨?_, fun f2 m => ?_⟩)))
      · simp only [List.length_append, List.length_cons, List.length_nil]; omega
      · rcases List.mem_append.mp m with m | m
        · exact g2 f2 m
        · rw [List.mem_singleton.mp m]; exact hf'
    · rintro ⟨d4, fs⟩ ⟨g1, g2⟩
      dsimp only at g1 g2
      exact Gv.ret (h _ _ ⟨by dsimp only; omega, fun f' m => by have := g2 f' m; omega, by dsimp only; omega⟩)
theorem gv_words {d : DSt} {l : Letters} {P : List Word × DSt → Prop} (hl : 0 < l.length ∧ l.length ≤ 50) (h : ∀ ws d', 0 < ws.length → ws.length ≤ 4 → (∀ w ∈ ws, OkWord w) → P (ws, d')) : Gv (t__law_words d l 4 4) P := by
  unfold t__law_words
  refine Gv.bnd (Gv.bind (Gv.rng1 (by omega) (Gv.bind (Gv.foldR (fun i c => c.2.length ≤ i ∧ (0 < i → 0 < c.2.length) ∧ ∀ w ∈ c.2, OkWord w) ⟨Nat.le_refl _, fun z => absurd z (by decide), fun w m => (nomatch m)⟩ ?_ ?_))))
  · rintro i ⟨d1, ws⟩ hi ⟨g1, g2, g3⟩
    dsimp only at g1 g2 g3 ⊢
    have hi : i < 4 := hi
    refine Gv.bind (gv_word hl fun w d2 hw => Gv.bnd (Gv.bind (Gv.nite (fun hn => Gv.bind (Gv.app (by omega) (Gv.ret (Gv.ret ⟨?_, fun _ => ?_, fun w' m => ?_⟩)))) fun hn => Gv.ret (Gv.ret ⟨by dsimp only; omega, fun _ => ?_, g3⟩))))
    · simp only [List.length_append, List.length_cons, List.length_nil]; omega
    · simp only [List.length_append, List.length_cons, List.length_nil]; omega
    · rcases List.mem_append.mp m with m | m
      · exact g3 w' m
      · rw [List.mem_singleton.mp m]; exact hw
    · exact List.length_pos_of_mem hn
  · rintro ⟨d1, ws⟩ ⟨g1, g2, g3⟩
    exact Gv.ret (h _ _ (g2 (by decide)) g1 g3)
theorem gv_listed {d : DSt} {l : Letters} {pool : List Word} {n left : Int} {P : List Word × DSt → Prop} (hl : 0 < l.length ∧ l.length ≤ 50) (hp : 0 < pool.length ∧ pool.length ≤ 4) (hw : ∀ w ∈ pool, OkWord w) (hn : 0 ≤ n ∧ n ≤ 8) (h : ∀ ws d', ws.length ≤ 8 → (∀ w ∈ ws, OkWord w) → P (ws, d')) : Gv (t__law_listed d l pool n left) P := by
  unfold t__law_listed
  refine Gv.bnd (Gv.bind (Gv.rng1 (by omega) (Gv.bind (Gv.foldR (fun i c => c.2.2.length ≤ i ∧ ∀ w ∈ c.2.2, OkWord w) ⟨Nat.le_refl _, fun w m => (nomatch m)⟩ ?_ ?_))))
  · rintro i ⟨d1, lf, ws⟩ hi ⟨g1, g3⟩
    dsimp only at g1 g3 ⊢
    refine Gv.bind (Gv.pick (by omega) fun w d2 hw1 => Gv.bnd (Gv.bind (Gv.draw (by omega) fun v d3 _ _ => ?_)))
    refine Gv.cut (fun c => OkWord c.2) (Gv.ite (fun _ => Gv.bind (gv_word hl fun w' d4 hw' => Gv.bnd (Gv.ret hw'))) fun _ => Gv.ret (hw w hw1)) ?_
    rintro ⟨d4, w2⟩ hw2
    refine Gv.bind (Gv.ite (fun _ => Gv.bnd (Gv.bind (Gv.app (by omega) (Gv.ret (Gv.ret ⟨?_, fun w' m => ?_⟩))))) fun _ => Gv.ret (Gv.ret ⟨by dsimp only; omega, g3⟩))
    · simp only [List.length_append, List.length_cons, List.length_nil]; omega
    · rcases List.mem_append.mp m with m | m
      · exact g3 w' m
      · rw [List.mem_singleton.mp m]; exact hw2
  · rintro ⟨d1, lf, ws⟩ ⟨g1, g3⟩
    exact Gv.ret (h _ _ (by dsimp only at g1 ⊢; omega) g3)
/-- a drawn machine -/
structure OkM (m : Mach) : Prop where
  ls : m.2.1.length ≤ 50
  bs : OkBs m.2.2
  live : ∀ b ∈ m.2.2, (b.2.1 = c_loop → 0 < b.2.2.1.length) ∧ (b.2.1 = c_shut → 0 < b.2.2.2.length)
theorem gv_rare {d : DSt} {n : Int} {P : Bool × DSt → Prop} (hn : 0 < n ∧ n < 1073741824) (h : ∀ b d', P (b, d')) : Gv (t__law_rare d n) P := by
  unfold t__law_rare
  refine Gv.bind (Gv.draw hn fun v d1 _ _ => Gv.bind ?_)
  exact ⟨_, if_pos (show CDiv n 2 from ⟨by omega, by omega⟩), ⟨_, rfl, h _ _⟩⟩
theorem gv_broad {d : DSt} {P : Mach × DSt → Prop} (h : ∀ m d', OkM m → P (m, d')) : Gv (t__law_broad d) P := by
  unfold t__law_broad
  refine Gv.bind (gv_letters (by omega) fun l d1 hl _ => Gv.bnd (Gv.bind (gv_rare (by omega) fun b d2 => ?_)))
  have h2 := hl.two
  have h50 := hl.len
  refine Gv.cut (fun c => 0 < c.length ∧ c.length ≤ 50) (Gv.ite (fun _ => Gv.bnd (Gv.ret ?_)) fun _ => Gv.ret (by dsimp only; omega)) ?_
  · have e : cutT l none (some (1 : Int)) = l.take 1 := cutT_take l 1
    dsimp only
    rw [e, List.length_take]; omega
  intro l2 hl2
  refine Gv.bind (gv_words hl2 fun pool d3 hp1 hp2 hp3 => Gv.bnd (Gv.bnd (Gv.bnd (Gv.bind (Gv.shuffled (by decide) fun names d4 hns => Gv.bnd (Gv.bind (Gv.draw (by omega) fun v d5 hv0 hv1 => ?_)))))))
  have hnl : names.length = 4 := hns.length_eq
  obtain ⟨k, rfl⟩ : ∃ k : Nat, v = (k : Int) := ⟨v.toNat, by omega⟩
  dsimp only
  rw [cutT_take]
  have ne : c_shut ≠ c_loop := by decide +kernel
  refine Gv.bind (Gv.fold (fun pre c => c.2.2.length ≤ pre.length ∧ (∀ b ∈ c.2.2, OkBar b) ∧ ∀ b ∈ c.2.2, (b.2.1 = c_loop → 0 < b.2.2.1.length) ∧ (b.2.1 = c_shut → 0 < b.2.2.2.length)) ⟨Nat.le_refl _, fun b m => (nomatch m), fun b m => (nomatch m)⟩ ?_ ?_)
  · rintro pre x post ⟨d6, lf, bs⟩ e ⟨g1, g2, g3⟩
    have hl3 := congrArg List.length e
    rw [List.length_append, List.length_cons, List.length_take] at hl3
    dsimp only at g1 g2 g3 ⊢
    refine Gv.bind (Gv.draw (by omega) fun v2 d7 _ _ => Gv.bind (gv_listed hl2 ⟨hp1, hp2⟩ hp3 (by dsimp only; omega) fun ch d8 hc1 hc2 => Gv.bnd (Gv.bind (Gv.mapU (by dsimp only; omega) (Gv.bnd (Gv.bnd ?_))))))
    refine Gv.cut (fun _ => True) (Gv.ite (fun _ => Gv.ret trivial) fun _ => Gv.bind (Gv.draw (by omega) fun v3 d9 _ _ => Gv.ret trivial)) fun b9 _ => ?_
    refine Gv.cut (fun c => c.2.2.length ≤ 8 ∧ ∀ w ∈ c.2.2, OkWord w) (Gv.ite (fun _ => Gv.bind (Gv.draw (by omega) fun v4 d10 _ _ => Gv.bind (gv_listed hl2 ⟨hp1, hp2⟩ hp3 (by dsimp only; omega) fun cl d11 hk1 hk2 => Gv.bnd (Gv.bind (Gv.mapU (by dsimp only; omega) (Gv.bnd (Gv.ret ⟨hk1, hk2⟩))))))) fun _ => Gv.ret ⟨Nat.zero_le _, fun w m => (nomatch m)⟩) ?_
    rintro ⟨d12, lf2, cl⟩ ⟨hk1, hk2⟩
    dsimp only at hk1 hk2 ⊢
    have fin : ∀ bs', (bs' = bs ∨ ∃ b, bs' = bs ++ [b] ∧ OkBar b ∧ (b.2.1 = c_loop → 0 < b.2.2.1.length) ∧ (b.2.1 = c_shut → 0 < b.2.2.2.length)) → bs'.length ≤ (pre ++ [x]).length ∧ (∀ b ∈ bs', OkBar b) ∧ ∀ b ∈ bs', (b.2.1 = c_loop → 0 < b.2.2.1.length) ∧ (b.2.1 = c_shut → 0 < b.2.2.2.length) := fun bs' hb => by
      rw [List.length_append, List.length_cons, List.length_nil]
      rcases hb with rfl | ⟨b, rfl, hb1, hb2⟩
      · exact ⟨by omega, g2, g3⟩
      · refine ⟨by rw [List.length_append, List.length_cons, List.length_nil]; omega, fun b' m => ?_, fun b' m => ?_⟩
        · rcases List.mem_append.mp m with m | m
          · exact g2 b' m
          · rw [List.mem_singleton.mp m]; exact hb1
        · rcases List.mem_append.mp m with m | m
          · exact g3 b' m
          · rw [List.mem_singleton.mp m]; exact hb2
    refine Gv.bind (Gv.dite (fun hcl => Gv.bind (Gv.app (by omega) (Gv.ret (Gv.ret (fin _ (.inr ⟨_, rfl, ⟨hc1, hk1, hc2, hk2, .inr rfl⟩, fun z => absurd z ne, fun _ => by dsimp only; omega⟩)))))) fun hcl => ?_)
    refine Gv.bind (Gv.dite (fun hch => Gv.bind (Gv.app (by omega) (Gv.ret (Gv.ret (Gv.ret (fin _ (.inr ⟨_, rfl, ⟨hc1, Nat.zero_le _, hc2, fun w m => (nomatch m), .inl rfl⟩, fun _ => by dsimp only; omega, fun z => absurd z (Ne.symm ne)⟩))))))) fun hch => Gv.ret (Gv.ret (Gv.ret (fin _ (.inl rfl)))))
  · rintro ⟨d6, lf, bs⟩ ⟨g1, g2, g3⟩
    rw [List.length_take] at g1
    dsimp only at g1 g2 g3 ⊢
    exact Gv.bind (Gv.pick (by decide) fun nm d7 _ => Gv.ret (h _ _ ⟨hl2.2, ⟨by dsimp only; omega, g2⟩, g3⟩))
end DL
set_option maxHeartbeats 1000000
namespace DL
open PySem PySem.Spec PyProof.Rows L2
local macro_rules | `(tactic| walk_at "side") => `(tactic| first | assumption | omega | rfl | decide | (simp only [List.length_append, List.length_cons, List.length_nil, List.length_map]; omega) | (simp only [List.length_append, List.length_cons, List.length_nil, List.length_map] at *; omega))
local macro_rules | `(tactic| walk_at "more") => `(tactic| fail)
local macro_rules | `(tactic| walk_at "gv1") => `(tactic| first
  | refine Gv.bnd ?_ | refine Gv.bind ?_ | refine Gv.ret ?_
  | refine Gv.app (by walk_at "side") ?_ | refine Gv.add (by walk_at "side") ?_ | refine Gv.mapU (by walk_at "side") ?_ | refine Gv.mapO (by walk_at "side") ?_ | refine Gv.keep (by walk_at "side") ?_
  | refine Gv.rng1 (by walk_at "side") ?_ | refine Gv.put (by walk_at "side") ?_ | refine Gv.draw (by walk_at "side") fun _ _ _ _ => ?_ | refine Gv.shuffled (by walk_at "side") fun _ _ _ => ?_ | refine Gv.pick (by walk_at "side") fun _ _ _ => ?_)
local macro_rules | `(tactic| walk_at "gv") => `(tactic| repeat' (first | walk_at "gv1" | walk_at "more" | fail))
/-! P11: law_k07_words_dropped holds. -/
theorem gv_gone {d : DSt} {m : Mach} {P : List Nm × DSt → Prop} (hb : OkBs m.2.2) (h : ∀ g d', (∀ x ∈ g, x ∈ namesOf 0 m.2.2) → g.length ≤ 64 → P (g, d')) : Gv (t__law_gone d m) P := by
  have hlen := namesOf_len (bs := m.2.2) 0 hb.2
  have hb1 := hb.1
  unfold t__law_gone
  refine Gv.bind (Gv.of (named_eq hb.bars) (Gv.bnd (Gv.bind (Gv.draw (by omega) fun v d1 _ _ => Gv.bnd (Gv.ite (fun _ => Gv.ret (h _ _ (fun x m => (nomatch m)) (Nat.zero_le _))) fun hne => ?_)))))
  have hpos : 0 < (namesOf 0 m.2.2).length := by
    rw [Bool.or_eq_false_iff] at hne
    have := of_decide_eq_false hne.1
    omega
  have flt : ∀ (c : Nm → Bool) d', Gv (((mapO c (fun nm => nm) (namesOf 0 m.2.2)).bind fun r => some (r, d'))) P := fun c d' => by
    refine Gv.bind (Gv.mapO (by omega) (Gv.ret (h _ _ (fun x mx => ?_) ?_)))
    · rw [List.map_id'] at mx
      exact (List.mem_filter.mp mx).1
    · rw [List.length_map]
      have := List.length_filter_le c (namesOf 0 m.2.2)
      omega
  refine Gv.bind (Gv.pick (by omega) fun one d2 ho => Gv.bnd (Gv.ite (fun _ => Gv.ret (h _ _ (fun x m => m) (by omega))) fun _ => ?_))
  refine Gv.ite (fun _ => Gv.ret (h _ _ (fun x m => by rw [List.mem_singleton.mp m]; exact ho) (by show 1 ≤ 64; decide))) fun _ => ?_
  refine Gv.ite (fun _ => flt _ _) fun _ => ?_
  refine Gv.ite (fun _ => flt _ _) fun _ => ?_
  refine Gv.ite (fun _ => flt _ _) fun _ => ?_
  refine Gv.bind (Gv.comp (fun pre _ ys => (∀ x ∈ ys, x ∈ pre) ∧ ys.length ≤ pre.length) (by omega) ⟨fun x m => m, Nat.le_refl _⟩ ?_ ?_)
  · rintro pre x post c ys e ⟨h1, h2⟩
    refine Gv.bind (Gv.draw (by omega) fun v2 d3 _ _ => Gv.ite (fun _ => Gv.ret ⟨fun y my => ?_, ?_⟩) fun _ => Gv.ret ⟨fun y my => ?_, ?_⟩)
    · rcases List.mem_append.mp my with my | my
      · exact List.mem_append_left _ (h1 y my)
      · exact List.mem_append_right _ (by simpa using my)
    · simp only [Option.toList_some, List.length_append, List.length_cons, List.length_nil]; omega
    · simp only [Option.toList_none, List.append_nil] at my
      exact List.mem_append_left _ (h1 y my)
    · simp only [Option.toList_none, List.length_append, List.length_cons, List.length_nil]; omega
  · rintro c ys ⟨h1, h2⟩
    exact Gv.ret (h _ _ h1 (by dsimp only; omega))
theorem gOf_congr {a b : List Nm} (h : ∀ x, x ∈ a ↔ x ∈ b) : gOf a = gOf b := by
  funext n p i
  exact decide_eq_decide.mpr (h _)
theorem gOf_true {a : List Nm} {n p i : Int} : gOf a n p i = true ↔ (n, p, i) ∈ a := decide_eq_true_iff
theorem drop_none {m : Mach} (h : OkM m) : dropB (gOf []) 0 m.2.2 = m.2.2 := by
  have hk : ∀ (n p : Int) (ws : List Word), kw (gOf [] n p) 0 ws = ws := fun n p ws => kw_none ws 0 fun t _ => rfl
  have key : ∀ (bs : List Bar) (n : Int), (∀ b ∈ bs, (b.2.1 = c_loop → 0 < b.2.2.1.length) ∧ (b.2.1 = c_shut → 0 < b.2.2.2.length)) → (∀ b ∈ bs, b.2.1 = c_loop ∨ b.2.1 = c_shut) → dropB (gOf []) n bs = bs := fun bs => by
    induction bs with
    | nil => intro _ _ _; rfl
    | cons b r ih =>
      intro n h1 h2
      have hs : stays (gOf []) n b = true := by
        unfold stays
        rw [hk, hk]
        split
        · rename_i hc; exact decide_eq_true ((h1 b List.mem_cons_self).1 hc)
        · rename_i hc; exact decide_eq_true ((h1 b List.mem_cons_self).2 ((h2 b List.mem_cons_self).resolve_left hc))
      have ho : barOut (gOf []) n b = b := by
        unfold barOut
        rw [hk, hk]
      unfold dropB
      rw [hs, ho, ih (n + 1) (fun b m => h1 b (List.mem_cons_of_mem _ m)) (fun b m => h2 b (List.mem_cons_of_mem _ m))]; rfl
  exact key m.2.2 0 h.live fun b mb => (h.bs.2 b mb).kind
theorem drop_all {m : Mach} : dropB (gOf (namesOf 0 m.2.2)) 0 m.2.2 = [] := by
  have key : ∀ (post pre : List Bar), m.2.2 = pre ++ post → dropB (gOf (namesOf 0 m.2.2)) (pre.length : Int) post = [] := fun post => by
    induction post with
    | nil => intro _ _; rfl
    | cons b r ih =>
      intro pre e
      have hb : m.2.2[pre.length]? = some b := by rw [e]; simp
      have hk : ∀ p : Int, p = 0 ∨ p = 1 → kw (gOf (namesOf 0 m.2.2) (pre.length : Int) p) 0 (partOf p b) = [] := fun p hp => kw_all _ 0 fun t ht => by
        rw [gOf_true, Int.zero_add]
        exact mem_names.mpr ⟨pre.length, b, p, t, hb, hp, ht, rfl⟩
      have k0 : kw (gOf (namesOf 0 m.2.2) (pre.length : Int) 0) 0 b.2.2.1 = [] := hk 0 (.inl rfl)
      have k1 : kw (gOf (namesOf 0 m.2.2) (pre.length : Int) 1) 0 b.2.2.2 = [] := hk 1 (.inr rfl)
      have hs : stays (gOf (namesOf 0 m.2.2)) (pre.length : Int) b = false := by
        unfold stays
        rw [k0, k1]
        split <;> rfl
      have := ih (pre ++ [b]) (by rw [e, List.append_assoc]; rfl)
      rw [List.length_append] at this
      unfold dropB
      rw [hs]
      exact this
  exact key m.2.2 [] rfl
/-- where a name goes, as a plain function -/
def mvT (m : Mach) (gone : List Nm) (nm : Nm) : Option Nm := (t__law_moved m gone nm).getD none
theorem moved_some {m : Mach} {gone : List Nm} {nm : Nm} (h : OkBars m.2.2) (hn : nm ∈ namesOf 0 m.2.2) : t__law_moved m gone nm = some (mvT m gone nm) := by
  obtain ⟨t, b, p, i, hb, hp, hi, rfl⟩ := mem_names.mp hn
  have := moved_eq (gone := gone) h hb hp hi
  unfold mvT
  rw [this]; rfl
/-- left out twice is left out at once -/
theorem drop_moved {m : Mach} {gone more sh fe : List Nm} (h : OkBars m.2.2) (hm : ∀ x ∈ more, x ∈ namesOf 0 m.2.2) (hs : ∀ x, x ∈ sh ↔ x ∈ more) (hfe : ∀ x, x ∈ fe ↔ x ∈ more ∧ x ∉ gone) :
    dropB (gOf ((sh.map (mvT m gone)).filterMap id)) 0 (dropB (gOf gone) 0 m.2.2) = dropB (gOf (gone ++ fe)) 0 m.2.2 := by
  refine dropB_two m.2.2 0 0 (fun t b hb hst p hp i hi hg => ?_) fun n p i hg => ?_
  · rw [Int.zero_add] at hst hg ⊢
    rw [Int.zero_add]
    have hng : ((t : Int), p, (i : Int)) ∉ gone := fun z => by rw [gOf_true.mpr z] at hg; cases hg
    apply Bool.eq_iff_iff.mpr
    rw [gOf_true, gOf_true, List.mem_append, hfe, List.mem_filterMap]
    constructor
    · rintro ⟨o, ho, e⟩
      obtain ⟨nm, hnm, rfl⟩ := List.mem_map.mp ho
      have hnm := (hs nm).mp hnm
      obtain ⟨t', b', p', i', hb', hp', hi', rfl⟩ := mem_names.mp (hm nm hnm)
      have e1 : mvT m gone ((t' : Int), p', (i' : Int)) = some _ := e
      unfold mvT at e1
      rw [moved_eq h hb' hp' hi', Option.getD_some] at e1
      by_cases hc : gOf gone (t' : Int) p' (i' : Int) = true ∨ stays (gOf gone) (t' : Int) b' = false
      · rw [if_pos hc] at e1; cases e1
      · rw [if_neg hc] at e1
        have hg' : gOf gone (t' : Int) p' (i' : Int) = false := Bool.eq_false_iff.mpr fun z => hc (.inl z)
        have hst' : stays (gOf gone) (t' : Int) b' = true := by
          cases hz : stays (gOf gone) (t' : Int) b' with
          | true => rfl
          | false => exact absurd (Or.inr hz) hc
        have e2 := Option.some.inj e1
        have e3 := congrArg Prod.fst e2
        have e4 := congrArg (fun x => x.2.1) e2
        have e5 := congrArg (fun x => x.2.2) e2
        dsimp only at e3 e4 e5
        have et : t' = t := dropB_inj (g := gOf gone) (n := 0) hb' hb (by rw [Int.zero_add]; exact hst') (by rw [Int.zero_add]; exact hst) (by omega)
        subst et
        rw [hb] at hb'
        cases hb'
        subst e4
        have ei : i' = i := kw_inj (g := gOf gone (t' : Int) p') (i := 0) hi' hi (by rw [Int.zero_add]; exact hg') (by rw [Int.zero_add]; exact hg) (by omega)
        subst ei
        exact .inr ⟨hnm, hng⟩
    · rintro (z | ⟨z, _⟩)
      · exact absurd z hng
      · refine ⟨mvT m gone ((t : Int), p, (i : Int)), List.mem_map.mpr ⟨_, (hs _).mpr z, rfl⟩, ?_⟩
        show mvT m gone ((t : Int), p, (i : Int)) = _
        unfold mvT
        rw [moved_eq h hb hp hi, Option.getD_some, if_neg]
        rintro (z | z)
        · rw [hg] at z; cases z
        · rw [hst] at z; cases z
  · rw [gOf_true] at hg ⊢
    exact List.mem_append_left _ hg
theorem nots {b : Bool} {t u : Option α} {P : α → Prop} (h : b = true) (k : Gv u P) : Gv (if (!b) = true then t else u) P := Gv.iteF (by rw [h]; rfl) k
theorem gv_diff {gone more : List Nm} {c : Nm → Bool} {P : List Nm → Prop} (hc : ∀ x, c x = true ↔ x ∉ gone) (hl : more.length ≤ 64) (h : ∀ fe, fe.length ≤ 64 → (∀ x, x ∈ fe ↔ x ∈ more ∧ x ∉ gone) → P fe) : Gv (mapO c (fun x => x) more) P := by
  refine Gv.mapO (by omega) ?_
  rw [List.map_id']
  exact h _ (Nat.le_trans (List.length_filter_le _ _) hl) fun x => List.mem_filter.trans (and_congr_right fun _ => hc x)
/-- one machine -/
theorem law_true (d : DSt) : t_law d = some true := by
  apply Gv.eq
  unfold t_law
  refine Gv.bind (gv_broad fun m1 d1 h1 => Gv.bnd (Gv.bind (gv_broad fun m2 d2 h2 => Gv.bnd ?_)))
  refine Gv.bind (Gv.loop (fun _ _ => True) trivial ?_ fun c _ => Gv.out (Gv.ret rfl))
  rintro pre m post c e _
  have hm : OkM m := by
    have : m ∈ [m1, m2, m1] := by
      have e : [m1, m2, m1] = pre ++ m :: post := e
      rw [e]; simp
    simp only [List.mem_cons, List.not_mem_nil, or_false] at this
    rcases this with rfl | rfl | rfl
    · exact h1
    · exact h2
    · exact h1
  have hb := hm.bs.bars
  have hbs := hm.bs
  have hout : ∀ g : GF, OkBs (dropB g 0 m.2.2) := fun g => dropB_okBs hbs
  have hpl : ∀ bs, OkBs bs → plainN 10 (eMach (m.1, m.2.1, bs)) = true := fun bs h => plain_mach hm.ls h
  have hlen := namesOf_len (bs := m.2.2) 0 hbs.2
  have hb1 := hbs.1
  refine Gv.bind (Gv.of (word_names_eq hb) (Gv.bind (Gv.of (named_eq hb) (Gv.bind (Gv.of (same_of rfl (plain_names hbs)) (nots rfl ?_))))))
  refine Gv.bind (Gv.of (drop_eq hb) (Gv.bind (Gv.of (same_of (by rw [drop_none hm]) (by rw [drop_none hm]; exact hpl _ hbs)) (nots rfl ?_))))
  refine Gv.bind (Gv.of (named_eq hb) (Gv.bind (Gv.of (drop_eq hb) (Gv.bind (Gv.of (same_of (by rw [drop_all]; rfl) (by rw [drop_all]; exact hpl [] ⟨Nat.zero_le _, fun b m => (nomatch m)⟩)) (nots rfl ?_))))))
  refine Gv.bind (gv_gone hbs fun gone d3 hg1 hg2 => Gv.bnd (Gv.bind (Gv.of (left_eq hb) (Gv.bnd ?_))))
  refine Gv.bind (Gv.shuffled (by dsimp only; omega) fun sh d4 hp => Gv.bind (Gv.of (drop_eq hb) (Gv.bnd ?_)))
  dsimp only at hp ⊢
  have eg : gOf sh = gOf gone := gOf_congr fun x => hp.mem_iff
  rw [eg]
  refine Gv.bind (Gv.of (same_of rfl (hpl _ (hout _))) ?_)
  have hb2 : OkBars (dropB (gOf gone) 0 m.2.2) := (hout _).bars
  refine Gv.bind (Gv.iteF rfl (Gv.bind (Gv.of (word_names_eq (m := (m.1, m.2.1, dropB (gOf gone) 0 m.2.2)) hb2) (Gv.bind (Gv.of (named_eq (m := (m.1, m.2.1, dropB (gOf gone) 0 m.2.2)) hb2) (Gv.bind (Gv.of (same_of rfl (plain_names (hout _))) (Gv.ret (Gv.iteF rfl ?_)))))))))
  refine Gv.bind (gv_gone hbs fun more d5 hm1 hm2 => Gv.bnd (Gv.bind (Gv.shuffled (by dsimp only; omega) fun sh2 d6 hp2 => ?_)))
  dsimp only at hp2 ⊢
  have hl2 := hp2.length_eq
  refine Gv.bind (Gv.comp (fun pre _ ys => ys = pre.map (mvT m gone)) (by omega) rfl ?_ ?_)
  · rintro pre x post c ys e rfl
    refine Gv.bind (Gv.of (moved_some hb (hm1 x (hp2.mem_iff.mp (by rw [e]; simp)))) (Gv.ret ?_))
    rw [List.map_append]; rfl
  rintro c2 ys rfl
  refine Gv.bnd (Gv.bind (gv_diff (fun x => ⟨fun h z => (by rw [decide_eq_true z] at h; cases h), fun h => (by rw [decide_eq_false h]; rfl)⟩) hm2 fun fe hf1 hf2 => Gv.bind (Gv.add (by omega) ?_)))
  refine Gv.bind (Gv.of (left_eq hb) (Gv.bnd ?_))
  refine Gv.bind (Gv.comp (fun pre _ ys => ys = pre.filterMap id) (by rw [List.length_map]; omega) rfl ?_ ?_)
  · rintro pre x post c ys e rfl
    rw [List.filterMap_append]
    cases x with
    | none => exact Gv.iteF rfl (Gv.ret rfl)
    | some y => exact Gv.iteT rfl (Gv.bind (Gv.ret (Gv.ret rfl)))
  rintro c3 ys rfl
  refine Gv.bind (Gv.of (drop_eq (m := (m.1, m.2.1, dropB (gOf gone) 0 m.2.2)) hb2) ?_)
  dsimp only
  rw [drop_moved hb hm1 (fun x => hp2.mem_iff) hf2]
  refine Gv.bind (Gv.of (same_of rfl (hpl _ (hout _))) (nots rfl ?_))
  refine Gv.bind (gv_diff (fun x => ⟨fun h z => (by rw [decide_eq_true z] at h; cases h), fun h => (by rw [decide_eq_false h]; rfl)⟩) hm2 fun fe' hf3 hf4 => Gv.bind (Gv.add (by omega) ?_))
  have eg2 : gOf (gone ++ fe') = gOf (gone ++ fe) := gOf_congr fun x => by rw [List.mem_append, List.mem_append, hf2, hf4]
  refine Gv.bind (Gv.of (drop_eq hb) ?_)
  rw [eg2]
  exact Gv.bind (Gv.of (same_of rfl (hpl _ (hout _))) (nots rfl (Gv.ret trivial)))
end DL
set_option maxHeartbeats 4000000
namespace UA
open PySem PySem.Spec PyProof.Rows L2 DL
def topS (i : Nat) : Stmt := PySem.Challenge.pw_ringsbelow_k07_words_dropped.main.body.getD i (.Pass ⟨0, 0, 0, 0⟩)
abbrev s_word_names : Stmt := topS 1
theorem sc_word_names : FnScope ["machine", "names", "number", "bar", "index"] ["machine"] (defScope s_word_names) := ⟨rfl, rfl, rfl, by decide +kernel, rfl, by decide +kernel, by decide +kernel⟩
theorem b_word_names {P : Program} {w : World} {K : PySem.W.Frag} {mg : Str → Option Value} {base : Heap} {k : Nat} (m_enumerate : mg "enumerate" = none) (m_len : mg "len" = none) (m_range : mg "range" = none) (m_tuple : mg "tuple" = none) (hk : 0 ≤ k) (E : XK) : DSs ⟨P, w, K, mg, base, ["machine", "names", "number", "bar", "index"], defScope s_word_names, fun _ => true, k, E⟩ (defBody s_word_names) [1, 2, 3, 4] [1, 2, 3, 4] g_word_names := by
  have nd : (["machine", "names", "number", "bar", "index"] : List Str).Nodup := sc_word_names.nd
  have n0 : NmS ⟨P, w, K, mg, base, ["machine", "names", "number", "bar", "index"], defScope s_word_names, fun _ => true, k, E⟩ 0 "machine" := ⟨rfl, .inl rfl, by decide, by decide⟩
  have n1 : NmS ⟨P, w, K, mg, base, ["machine", "names", "number", "bar", "index"], defScope s_word_names, fun _ => true, k, E⟩ 1 "names" := ⟨rfl, .inl rfl, by decide, by decide⟩
  have t1 : NmT ⟨P, w, K, mg, base, ["machine", "names", "number", "bar", "index"], defScope s_word_names, fun _ => true, k, E⟩ 1 "names" := ⟨nd, rfl, .inl rfl, .inl rfl⟩
  have n2 : NmS ⟨P, w, K, mg, base, ["machine", "names", "number", "bar", "index"], defScope s_word_names, fun _ => true, k, E⟩ 2 "number" := ⟨rfl, .inl rfl, by decide, by decide⟩
  have t2 : NmT ⟨P, w, K, mg, base, ["machine", "names", "number", "bar", "index"], defScope s_word_names, fun _ => true, k, E⟩ 2 "number" := ⟨nd, rfl, .inl rfl, .inl rfl⟩
  have n3 : NmS ⟨P, w, K, mg, base, ["machine", "names", "number", "bar", "index"], defScope s_word_names, fun _ => true, k, E⟩ 3 "bar" := ⟨rfl, .inl rfl, by decide, by decide⟩
  have t3 : NmT ⟨P, w, K, mg, base, ["machine", "names", "number", "bar", "index"], defScope s_word_names, fun _ => true, k, E⟩ 3 "bar" := ⟨nd, rfl, .inl rfl, .inl rfl⟩
  have n4 : NmS ⟨P, w, K, mg, base, ["machine", "names", "number", "bar", "index"], defScope s_word_names, fun _ => true, k, E⟩ 4 "index" := ⟨rfl, .inl rfl, by decide, by decide⟩
  have t4 : NmT ⟨P, w, K, mg, base, ["machine", "names", "number", "bar", "index"], defScope s_word_names, fun _ => true, k, E⟩ 4 "index" := ⟨nd, rfl, .inl rfl, .inl rfl⟩
  exact DSs.monoD (dss_cons (ds_asg t1 (de_lst (da_nil) rfl trivial) (fun _ => rfl)) (dss_cons (ds_for (di_enum ⟨rfl, m_enumerate⟩ (de_ix (da_cons (de_sl n0) (da_cons (de_int) (da_nil))) (fun _ _ => rfl)) ⟨fun _ => rfl, trivial⟩) (tg_tup (TgsOk.cons t2 (TgsOk.cons t3 (TgsOk.nil) (fun _ => rfl)) (fun _ => rfl)) (fun _ => rfl) (fun _ => rfl)) (dss_cons (ds_for (di_rng1 ⟨rfl, m_range⟩ (da_cons (de_len ⟨rfl, m_len⟩ (da_cons (de_ix (da_cons (de_sl n3) (da_cons (de_int) (da_nil))) (fun _ _ => rfl)) (da_nil)) ⟨fun _ => rfl, trivial⟩) (da_nil)) ⟨fun _ => rfl, trivial⟩) (tg_nm t4) (dss_cons (ds_app n1 (de_tup (da_cons (de_imm (de_sl n2)) (da_cons (de_int) (da_cons (de_imm (de_sl n4)) (da_nil)))) rfl ⟨fun _ => rfl, fun _ => rfl, fun _ => rfl, trivial⟩) ⟨fun _ => rfl, trivial⟩ (fun _ => rfl) rfl (fun _ => rfl) (fun _ => rfl)) (dss_nil)) (fun _ _ => rfl) (by decide)) (dss_cons (ds_for (di_rng1 ⟨rfl, m_range⟩ (da_cons (de_len ⟨rfl, m_len⟩ (da_cons (de_ix (da_cons (de_sl n3) (da_cons (de_int) (da_nil))) (fun _ _ => rfl)) (da_nil)) ⟨fun _ => rfl, trivial⟩) (da_nil)) ⟨fun _ => rfl, trivial⟩) (tg_nm t4) (dss_cons (ds_app n1 (de_tup (da_cons (de_imm (de_sl n2)) (da_cons (de_int) (da_cons (de_imm (de_sl n4)) (da_nil)))) rfl ⟨fun _ => rfl, fun _ => rfl, fun _ => rfl, trivial⟩) ⟨fun _ => rfl, trivial⟩ (fun _ => rfl) rfl (fun _ => rfl) (fun _ => rfl)) (dss_nil)) (fun _ _ => rfl) (by decide)) (dss_nil))) (fun _ _ => rfl) (by decide)) (dss_cons (ds_ret (de_tupleC ⟨rfl, m_tuple⟩ (da_cons (de_sl n1) (da_nil)) ⟨fun _ => rfl, trivial⟩)) (dss_nil)))) (by decide) (by decide)
theorem i_word_names {P : Program} {w : World} {K : PySem.W.Frag} {mg : Str → Option Value} {base : Heap} {k : Nat} (m_enumerate : mg "enumerate" = none) (m_len : mg "len" = none) (m_range : mg "range" = none) (m_tuple : mg "tuple" = none) (hk : 0 ≤ k) {fa : Addr} {fd : FuncData} (Fu : Fun K "word_names" "word_names" s_word_names fa fd) (hm : mg "word_names" = some (.ref fa)) (bi : Binds K fd ["machine"] []) : FnI P w K mg base "word_names" F_word_names [] 1 (k + 1) := by
  unfold F_word_names
  exact
  FnI.mk' Fu (fn_rule Fu sc_word_names (b_word_names m_enumerate m_len m_range m_tuple hk) rfl rfl (by decide) (by decide)) hm bi
abbrev s_left_words : Stmt := topS 2
theorem sc_left_words : FnScope ["words", "number", "part", "names", "left", "index", "word"] ["words", "number", "part", "names"] (defScope s_left_words) := ⟨rfl, rfl, rfl, by decide +kernel, rfl, by decide +kernel, by decide +kernel⟩
theorem b_left_words {P : Program} {w : World} {K : PySem.W.Frag} {mg : Str → Option Value} {base : Heap} {k : Nat} (m_enumerate : mg "enumerate" = none) (m_tuple : mg "tuple" = none) (hk : 0 ≤ k) (E : XK) : DSs ⟨P, w, K, mg, base, ["words", "number", "part", "names", "left", "index", "word"], defScope s_left_words, fun _ => true, k, E⟩ (defBody s_left_words) [4, 5, 6] [4, 5, 6] g_left_words := by
  have nd : (["words", "number", "part", "names", "left", "index", "word"] : List Str).Nodup := sc_left_words.nd
  have n0 : NmS ⟨P, w, K, mg, base, ["words", "number", "part", "names", "left", "index", "word"], defScope s_left_words, fun _ => true, k, E⟩ 0 "words" := ⟨rfl, .inl rfl, by decide, by decide⟩
  have n1 : NmS ⟨P, w, K, mg, base, ["words", "number", "part", "names", "left", "index", "word"], defScope s_left_words, fun _ => true, k, E⟩ 1 "number" := ⟨rfl, .inl rfl, by decide, by decide⟩
  have n2 : NmS ⟨P, w, K, mg, base, ["words", "number", "part", "names", "left", "index", "word"], defScope s_left_words, fun _ => true, k, E⟩ 2 "part" := ⟨rfl, .inl rfl, by decide, by decide⟩
  have n3 : NmS ⟨P, w, K, mg, base, ["words", "number", "part", "names", "left", "index", "word"], defScope s_left_words, fun _ => true, k, E⟩ 3 "names" := ⟨rfl, .inl rfl, by decide, by decide⟩
  have n4 : NmS ⟨P, w, K, mg, base, ["words", "number", "part", "names", "left", "index", "word"], defScope s_left_words, fun _ => true, k, E⟩ 4 "left" := ⟨rfl, .inl rfl, by decide, by decide⟩
  have t4 : NmT ⟨P, w, K, mg, base, ["words", "number", "part", "names", "left", "index", "word"], defScope s_left_words, fun _ => true, k, E⟩ 4 "left" := ⟨nd, rfl, .inl rfl, .inl rfl⟩
  have n5 : NmS ⟨P, w, K, mg, base, ["words", "number", "part", "names", "left", "index", "word"], defScope s_left_words, fun _ => true, k, E⟩ 5 "index" := ⟨rfl, .inl rfl, by decide, by decide⟩
  have t5 : NmT ⟨P, w, K, mg, base, ["words", "number", "part", "names", "left", "index", "word"], defScope s_left_words, fun _ => true, k, E⟩ 5 "index" := ⟨nd, rfl, .inl rfl, .inl rfl⟩
  have n6 : NmS ⟨P, w, K, mg, base, ["words", "number", "part", "names", "left", "index", "word"], defScope s_left_words, fun _ => true, k, E⟩ 6 "word" := ⟨rfl, .inl rfl, by decide, by decide⟩
  have t6 : NmT ⟨P, w, K, mg, base, ["words", "number", "part", "names", "left", "index", "word"], defScope s_left_words, fun _ => true, k, E⟩ 6 "word" := ⟨nd, rfl, .inl rfl, .inl rfl⟩
  exact DSs.monoD (dss_cons (ds_asg t4 (de_lst (da_nil) rfl trivial) (fun _ => rfl)) (dss_cons (ds_for (di_enum ⟨rfl, m_enumerate⟩ (de_sl n0) ⟨fun _ => rfl, trivial⟩) (tg_tup (TgsOk.cons t5 (TgsOk.cons t6 (TgsOk.nil) (fun _ => rfl)) (fun _ => rfl)) (fun _ => rfl) (fun _ => rfl)) (dss_cons (ds_if (dt_cmp co_nin (da_cons (de_tup (da_cons (de_imm (de_sl n1)) (da_cons (de_imm (de_sl n2)) (da_cons (de_imm (de_sl n5)) (da_nil)))) rfl ⟨fun _ => rfl, fun _ => rfl, fun _ => rfl, trivial⟩) (da_cons (de_sl n3) (da_nil))) (by rfl)) (dss_cons (ds_app n4 (de_imm (de_sl n6)) ⟨fun _ => rfl, trivial⟩ (fun _ => rfl) rfl (fun _ => rfl) (fun _ => rfl)) (dss_nil)) (dss_nil)) (dss_nil)) (fun _ _ => rfl) (by decide)) (dss_cons (ds_ret (de_tupleC ⟨rfl, m_tuple⟩ (da_cons (de_sl n4) (da_nil)) ⟨fun _ => rfl, trivial⟩)) (dss_nil)))) (by decide) (by decide)
theorem i_left_words {P : Program} {w : World} {K : PySem.W.Frag} {mg : Str → Option Value} {base : Heap} {k : Nat} (m_enumerate : mg "enumerate" = none) (m_tuple : mg "tuple" = none) (hk : 0 ≤ k) {fa : Addr} {fd : FuncData} (Fu : Fun K "left_words" "left_words" s_left_words fa fd) (hm : mg "left_words" = some (.ref fa)) (bi : Binds K fd ["words", "number", "part", "names"] []) : FnI P w K mg base "left_words" F_left_words [] 4 (k + 1) := by
  unfold F_left_words
  exact
  FnI.mk' Fu (fn_rule Fu sc_left_words (b_left_words m_enumerate m_tuple hk) rfl rfl (by decide) (by decide)) hm bi
abbrev s_drop_words : Stmt := topS 3
theorem sc_drop_words : FnScope ["machine", "names", "bars", "number", "bar", "chain", "closing"] ["machine", "names"] (defScope s_drop_words) := ⟨rfl, rfl, rfl, by decide +kernel, rfl, by decide +kernel, by decide +kernel⟩
theorem b_drop_words {P : Program} {w : World} {K : PySem.W.Frag} {mg : Str → Option Value} {base : Heap} {k : Nat} (f_left_words : FnI P w K mg base "left_words" F_left_words [] 4 1) (m_enumerate : mg "enumerate" = none) (m_len : mg "len" = none) (m_tuple : mg "tuple" = none) (hk : 1 ≤ k) (E : XK) : DSs ⟨P, w, K, mg, base, ["machine", "names", "bars", "number", "bar", "chain", "closing"], defScope s_drop_words, fun _ => true, k, E⟩ (defBody s_drop_words) [2, 3, 4, 5, 6] [2, 3, 4, 5, 6] g_drop_words := by
  have nd : (["machine", "names", "bars", "number", "bar", "chain", "closing"] : List Str).Nodup := sc_drop_words.nd
  have n0 : NmS ⟨P, w, K, mg, base, ["machine", "names", "bars", "number", "bar", "chain", "closing"], defScope s_drop_words, fun _ => true, k, E⟩ 0 "machine" := ⟨rfl, .inl rfl, by decide, by decide⟩
  have n1 : NmS ⟨P, w, K, mg, base, ["machine", "names", "bars", "number", "bar", "chain", "closing"], defScope s_drop_words, fun _ => true, k, E⟩ 1 "names" := ⟨rfl, .inl rfl, by decide, by decide⟩
  have n2 : NmS ⟨P, w, K, mg, base, ["machine", "names", "bars", "number", "bar", "chain", "closing"], defScope s_drop_words, fun _ => true, k, E⟩ 2 "bars" := ⟨rfl, .inl rfl, by decide, by decide⟩
  have t2 : NmT ⟨P, w, K, mg, base, ["machine", "names", "bars", "number", "bar", "chain", "closing"], defScope s_drop_words, fun _ => true, k, E⟩ 2 "bars" := ⟨nd, rfl, .inl rfl, .inl rfl⟩
  have n3 : NmS ⟨P, w, K, mg, base, ["machine", "names", "bars", "number", "bar", "chain", "closing"], defScope s_drop_words, fun _ => true, k, E⟩ 3 "number" := ⟨rfl, .inl rfl, by decide, by decide⟩
  have t3 : NmT ⟨P, w, K, mg, base, ["machine", "names", "bars", "number", "bar", "chain", "closing"], defScope s_drop_words, fun _ => true, k, E⟩ 3 "number" := ⟨nd, rfl, .inl rfl, .inl rfl⟩
  have n4 : NmS ⟨P, w, K, mg, base, ["machine", "names", "bars", "number", "bar", "chain", "closing"], defScope s_drop_words, fun _ => true, k, E⟩ 4 "bar" := ⟨rfl, .inl rfl, by decide, by decide⟩
  have t4 : NmT ⟨P, w, K, mg, base, ["machine", "names", "bars", "number", "bar", "chain", "closing"], defScope s_drop_words, fun _ => true, k, E⟩ 4 "bar" := ⟨nd, rfl, .inl rfl, .inl rfl⟩
  have n5 : NmS ⟨P, w, K, mg, base, ["machine", "names", "bars", "number", "bar", "chain", "closing"], defScope s_drop_words, fun _ => true, k, E⟩ 5 "chain" := ⟨rfl, .inl rfl, by decide, by decide⟩
  have t5 : NmT ⟨P, w, K, mg, base, ["machine", "names", "bars", "number", "bar", "chain", "closing"], defScope s_drop_words, fun _ => true, k, E⟩ 5 "chain" := ⟨nd, rfl, .inl rfl, .inl rfl⟩
  have n6 : NmS ⟨P, w, K, mg, base, ["machine", "names", "bars", "number", "bar", "chain", "closing"], defScope s_drop_words, fun _ => true, k, E⟩ 6 "closing" := ⟨rfl, .inl rfl, by decide, by decide⟩
  have t6 : NmT ⟨P, w, K, mg, base, ["machine", "names", "bars", "number", "bar", "chain", "closing"], defScope s_drop_words, fun _ => true, k, E⟩ 6 "closing" := ⟨nd, rfl, .inl rfl, .inl rfl⟩
  exact DSs.monoD (dss_cons (ds_asg t2 (de_lst (da_nil) rfl trivial) (fun _ => rfl)) (dss_cons (ds_for (di_enum ⟨rfl, m_enumerate⟩ (de_ix (da_cons (de_sl n0) (da_cons (de_int) (da_nil))) (fun _ _ => rfl)) ⟨fun _ => rfl, trivial⟩) (tg_tup (TgsOk.cons t3 (TgsOk.cons t4 (TgsOk.nil) (fun _ => rfl)) (fun _ => rfl)) (fun _ => rfl) (fun _ => rfl)) (dss_cons (ds_asg t5 (de_call f_left_words (Nat.le_trans (by decide) hk) rfl (da_cons (de_ix (da_cons (de_sl n4) (da_cons (de_int) (da_nil))) (fun _ _ => rfl)) (da_cons (de_imm (de_sl n3)) (da_cons (de_int) (da_cons (de_sl n1) (da_nil))))) ⟨fun _ => rfl, fun _ => rfl, fun _ => rfl, fun _ => rfl, trivial⟩ rfl rfl (by decide)) (fun _ => rfl)) (dss_cons (ds_asg t6 (de_call f_left_words (Nat.le_trans (by decide) hk) rfl (da_cons (de_ix (da_cons (de_sl n4) (da_cons (de_int) (da_nil))) (fun _ _ => rfl)) (da_cons (de_imm (de_sl n3)) (da_cons (de_int) (da_cons (de_sl n1) (da_nil))))) ⟨fun _ => rfl, fun _ => rfl, fun _ => rfl, fun _ => rfl, trivial⟩ rfl rfl (by decide)) (fun _ => rfl)) (dss_cons (ds_if (dt_w (dw_and (dt_cmp co_eq (da_cons (de_ix (da_cons (de_sl n4) (da_cons (de_int) (da_nil))) (fun _ _ => rfl)) (da_cons (de_str) (da_nil))) (nomark _)) (dw_and1 (dt_cmp co_eq (da_cons (de_len ⟨rfl, m_len⟩ (da_cons (de_sl n5) (da_nil)) ⟨fun _ => rfl, trivial⟩) (da_cons (de_int) (da_nil))) (nomark _))))) (dss_cons (ds_continue) (dss_nil)) (dss_nil)) (dss_cons (ds_if (dt_w (dw_and (dt_cmp co_eq (da_cons (de_ix (da_cons (de_sl n4) (da_cons (de_int) (da_nil))) (fun _ _ => rfl)) (da_cons (de_str) (da_nil))) (nomark _)) (dw_and1 (dt_cmp co_eq (da_cons (de_len ⟨rfl, m_len⟩ (da_cons (de_sl n6) (da_nil)) ⟨fun _ => rfl, trivial⟩) (da_cons (de_int) (da_nil))) (nomark _))))) (dss_cons (ds_continue) (dss_nil)) (dss_nil)) (dss_cons (ds_app n2 (de_tup (da_cons (de_ix (da_cons (de_sl n4) (da_cons (de_int) (da_nil))) (fun _ _ => rfl)) (da_cons (de_ix (da_cons (de_sl n4) (da_cons (de_int) (da_nil))) (fun _ _ => rfl)) (da_cons (de_imm (de_sl n5)) (da_cons (de_imm (de_sl n6)) (da_nil))))) rfl ⟨fun _ => rfl, fun _ => rfl, fun _ => rfl, fun _ => rfl, trivial⟩) ⟨fun _ => rfl, trivial⟩ (fun _ => rfl) rfl (fun _ => rfl) (fun _ => rfl)) (dss_nil)))))) (fun _ _ => rfl) (by decide)) (dss_cons (ds_ret (de_tup (da_cons (de_ix (da_cons (de_sl n0) (da_cons (de_int) (da_nil))) (fun _ _ => rfl)) (da_cons (de_ix (da_cons (de_sl n0) (da_cons (de_int) (da_nil))) (fun _ _ => rfl)) (da_cons (de_tupleC ⟨rfl, m_tuple⟩ (da_cons (de_sl n2) (da_nil)) ⟨fun _ => rfl, trivial⟩) (da_nil)))) rfl ⟨fun _ => rfl, fun _ => rfl, fun _ => rfl, trivial⟩)) (dss_nil)))) (by decide) (by decide)
theorem i_drop_words {P : Program} {w : World} {K : PySem.W.Frag} {mg : Str → Option Value} {base : Heap} {k : Nat} (f_left_words : FnI P w K mg base "left_words" F_left_words [] 4 1) (m_enumerate : mg "enumerate" = none) (m_len : mg "len" = none) (m_tuple : mg "tuple" = none) (hk : 1 ≤ k) {fa : Addr} {fd : FuncData} (Fu : Fun K "drop_words" "drop_words" s_drop_words fa fd) (hm : mg "drop_words" = some (.ref fa)) (bi : Binds K fd ["machine", "names"] []) : FnI P w K mg base "drop_words" F_drop_words [] 2 (k + 1) := by
  unfold F_drop_words
  exact
  FnI.mk' Fu (fn_rule Fu sc_drop_words (b_drop_words f_left_words m_enumerate m_len m_tuple hk) rfl rfl (by decide) (by decide)) hm bi
abbrev s__law_begin : Stmt := topS 5
theorem sc__law_begin : FnScope ["script", "cell"] ["script"] (defScope s__law_begin) := ⟨rfl, rfl, rfl, by decide +kernel, rfl, by decide +kernel, by decide +kernel⟩
theorem i__law_begin {P : Program} {w : World} {K : PySem.W.Frag} {mg : Str → Option Value} {base : Heap} {k : Nat} (m_int : mg "int" = none) {fa : Addr} {fd : FuncData} (Fu : Fun K "_law_begin" "_law_begin" s__law_begin fa fd) : FnOk P w K mg base (L2.CX P w) (k + 1) fa fd ["script"] (spBegin K) :=
  begin_ok Fu sc__law_begin rfl (blkOk_by (by show blkC ["script", "cell"] (defScope s__law_begin) _ _ = true; decide +kernel)) (fun _ => ⟨rfl, .inl rfl, by decide, by decide⟩) (fun _ => ⟨rfl, .inl rfl, by decide, by decide⟩) (fun _ => ⟨sc__law_begin.nd, rfl, .inl rfl, .inr rfl⟩) (fun _ => ⟨rfl, m_int⟩)
abbrev s__law_draw : Stmt := topS 6
theorem sc__law_draw : FnScope ["d", "many", "found", "size", "cell"] ["d", "many"] (defScope s__law_draw) := ⟨rfl, rfl, rfl, by decide +kernel, rfl, by decide +kernel, by decide +kernel⟩
theorem b__law_draw {P : Program} {w : World} {K : PySem.W.Frag} {mg : Str → Option Value} {base : Heap} {k : Nat} (m_int : mg "int" = none) (m_len : mg "len" = none) (m_abs : mg "abs" = none) (hk : 0 ≤ k) (E : XK) : DSs ⟨P, w, K, mg, base, ["d", "many", "found", "size", "cell"], defScope s__law_draw, fun _ => true, k, E⟩ (defBody s__law_draw) [0, 2, 3, 4] [2, 3, 4] g__law_draw := by
  have nd : (["d", "many", "found", "size", "cell"] : List Str).Nodup := sc__law_draw.nd
  have n0 : NmS ⟨P, w, K, mg, base, ["d", "many", "found", "size", "cell"], defScope s__law_draw, fun _ => true, k, E⟩ 0 "d" := ⟨rfl, .inl rfl, by decide, by decide⟩
  have n1 : NmS ⟨P, w, K, mg, base, ["d", "many", "found", "size", "cell"], defScope s__law_draw, fun _ => true, k, E⟩ 1 "many" := ⟨rfl, .inl rfl, by decide, by decide⟩
  have n2 : NmS ⟨P, w, K, mg, base, ["d", "many", "found", "size", "cell"], defScope s__law_draw, fun _ => true, k, E⟩ 2 "found" := ⟨rfl, .inl rfl, by decide, by decide⟩
  have t2 : NmT ⟨P, w, K, mg, base, ["d", "many", "found", "size", "cell"], defScope s__law_draw, fun _ => true, k, E⟩ 2 "found" := ⟨nd, rfl, .inl rfl, .inl rfl⟩
  have n3 : NmS ⟨P, w, K, mg, base, ["d", "many", "found", "size", "cell"], defScope s__law_draw, fun _ => true, k, E⟩ 3 "size" := ⟨rfl, .inl rfl, by decide, by decide⟩
  have t3 : NmT ⟨P, w, K, mg, base, ["d", "many", "found", "size", "cell"], defScope s__law_draw, fun _ => true, k, E⟩ 3 "size" := ⟨nd, rfl, .inl rfl, .inl rfl⟩
  have n4 : NmS ⟨P, w, K, mg, base, ["d", "many", "found", "size", "cell"], defScope s__law_draw, fun _ => true, k, E⟩ 4 "cell" := ⟨rfl, .inl rfl, by decide, by decide⟩
  have t4 : NmT ⟨P, w, K, mg, base, ["d", "many", "found", "size", "cell"], defScope s__law_draw, fun _ => true, k, E⟩ 4 "cell" := ⟨nd, rfl, .inl rfl, .inl rfl⟩
  exact DSs.monoD (dss_cons (ds_if (dt_cmp co_gt (da_cons (de_ix (da_cons (de_sl n0) (da_cons (de_int) (da_nil))) (fun _ _ => rfl)) (da_cons (de_int) (da_nil))) (nomark _)) (dss_cons (ds_asg t2 (de_ix (da_cons (de_sl n0) (da_cons (de_int) (da_nil))) (fun _ _ => rfl)) (fun _ => rfl)) (dss_cons (ds_setI n0 (de_fdiv (da_cons (de_sl n2) (da_cons (de_sl n1) (da_nil)))) (de_int) (fun _ => rfl) (fun _ => rfl) (fun _ _ => rfl)) (dss_cons (ds_ret (de_mod (da_cons (de_intC ⟨rfl, m_int⟩ (da_cons (de_sl n2) (da_nil)) ⟨fun _ => rfl, trivial⟩) (da_cons (de_sl n1) (da_nil))))) (dss_nil)))) (dss_nil)) (dss_cons (ds_asg t3 (de_int) (fun _ => rfl)) (dss_cons (ds_if (dt_cmp co_lt (da_cons (de_ix (da_cons (de_sl n0) (da_cons (de_int) (da_nil))) (fun _ _ => rfl)) (da_cons (de_len ⟨rfl, m_len⟩ (da_cons (de_ixB (da_cons (de_sl n0) (da_cons (de_int) (da_nil))) (fun _ _ => rfl) (fun h => nomatch h)) (da_nil)) ⟨fun _ => rfl, trivial⟩) (da_nil))) (nomark _)) (dss_cons (ds_asg t4 (de_ix (da_cons (de_ixB (da_cons (de_sl n0) (da_cons (de_int) (da_nil))) (fun _ _ => rfl) (fun h => nomatch h)) (da_cons (de_ix (da_cons (de_sl n0) (da_cons (de_int) (da_nil))) (fun _ _ => rfl)) (da_nil))) (fun _ _ => rfl)) (fun _ => rfl)) (dss_cons (ds_asg t3 (de_add (da_cons (de_mul (da_cons (de_int) (da_cons (de_abs ⟨rfl, m_abs⟩ (da_cons (de_sl n4) (da_nil)) ⟨fun _ => rfl, trivial⟩) (da_nil)))) (da_cons (de_intC ⟨rfl, m_int⟩ (da_cons (de_cmp co_lt (da_cons (de_sl n4) (da_cons (de_int) (da_nil))) (nomark _)) (da_nil)) ⟨fun _ => rfl, trivial⟩) (da_nil)))) (fun _ => rfl)) (dss_nil))) (dss_nil)) (dss_cons (ds_augSI n0 (de_int) (de_int) (fun _ => ip_add) (fun _ _ _ => rfl)) (dss_cons (ds_if (dt_cmp co_ge (da_cons (de_sl n3) (da_cons (de_mul (da_cons (de_int) (da_cons (de_pow (da_cons (de_int) (da_cons (de_int) (da_nil)))) (da_nil)))) (da_nil))) (nomark _)) (dss_cons (ds_asg t2 (de_mod (da_cons (de_intC ⟨rfl, m_int⟩ (da_cons (de_fdiv (da_cons (de_sl n3) (da_cons (de_int) (da_nil)))) (da_nil)) ⟨fun _ => rfl, trivial⟩) (da_cons (de_shl (da_cons (de_int) (da_cons (de_int) (da_nil)))) (da_nil)))) (fun _ => rfl)) (dss_cons (ds_setI n0 (de_fdiv (da_cons (de_sl n2) (da_cons (de_sl n1) (da_nil)))) (de_int) (fun _ => rfl) (fun _ => rfl) (fun _ _ => rfl)) (dss_cons (ds_ret (de_mod (da_cons (de_intC ⟨rfl, m_int⟩ (da_cons (de_sl n2) (da_nil)) ⟨fun _ => rfl, trivial⟩) (da_cons (de_sl n1) (da_nil))))) (dss_nil)))) (dss_nil)) (dss_cons (ds_setI n0 (de_mod (da_cons (de_intC ⟨rfl, m_int⟩ (da_cons (de_add (da_cons (de_add (da_cons (de_add (da_cons (de_mul (da_cons (de_ix (da_cons (de_sl n0) (da_cons (de_int) (da_nil))) (fun _ _ => rfl)) (da_cons (de_int) (da_nil)))) (da_cons (de_mul (da_cons (de_mod (da_cons (de_intC ⟨rfl, m_int⟩ (da_cons (de_sl n3) (da_nil)) ⟨fun _ => rfl, trivial⟩) (da_cons (de_int) (da_nil)))) (da_cons (de_int) (da_nil)))) (da_nil)))) (da_cons (de_mul (da_cons (de_ix (da_cons (de_sl n0) (da_cons (de_int) (da_nil))) (fun _ _ => rfl)) (da_cons (de_int) (da_nil)))) (da_nil)))) (da_cons (de_int) (da_nil)))) (da_nil)) ⟨fun _ => rfl, trivial⟩) (da_cons (de_int) (da_nil)))) (de_int) (fun _ => rfl) (fun _ => rfl) (fun _ _ => rfl)) (dss_cons (ds_ret (de_mod (da_cons (de_intC ⟨rfl, m_int⟩ (da_cons (de_fdiv (da_cons (de_ix (da_cons (de_sl n0) (da_cons (de_int) (da_nil))) (fun _ _ => rfl)) (da_cons (de_int) (da_nil)))) (da_nil)) ⟨fun _ => rfl, trivial⟩) (da_cons (de_sl n1) (da_nil))))) (dss_nil)))))))) (by decide) (by decide)
theorem i__law_draw {P : Program} {w : World} {K : PySem.W.Frag} {mg : Str → Option Value} {base : Heap} {k : Nat} (m_int : mg "int" = none) (m_len : mg "len" = none) (m_abs : mg "abs" = none) (hk : 0 ≤ k) {fa : Addr} {fd : FuncData} (Fu : Fun K "_law_draw" "_law_draw" s__law_draw fa fd) (hm : mg "_law_draw" = some (.ref fa)) (bi : Binds K fd ["d", "many"] []) : FnI P w K mg base "_law_draw" F__law_draw [0] 2 (k + 1) := by
  unfold F__law_draw
  exact
  FnI.mk' Fu (fn_rule Fu sc__law_draw (b__law_draw m_int m_len m_abs hk) rfl rfl (by decide) (by decide)) hm bi
abbrev s__law_pick : Stmt := topS 7
theorem sc__law_pick : FnScope ["d", "row"] ["d", "row"] (defScope s__law_pick) := ⟨rfl, rfl, rfl, by decide +kernel, rfl, by decide +kernel, by decide +kernel⟩
theorem b__law_pick {P : Program} {w : World} {K : PySem.W.Frag} {mg : Str → Option Value} {base : Heap} {k : Nat} (f__law_draw : FnI P w K mg base "_law_draw" F__law_draw [0] 2 1) (m_len : mg "len" = none) (hk : 1 ≤ k) (E : XK) : DSs ⟨P, w, K, mg, base, ["d", "row"], defScope s__law_pick, fun _ => true, k, E⟩ (defBody s__law_pick) [0] [] g__law_pick := by
  have nd : (["d", "row"] : List Str).Nodup := sc__law_pick.nd
  have n0 : NmS ⟨P, w, K, mg, base, ["d", "row"], defScope s__law_pick, fun _ => true, k, E⟩ 0 "d" := ⟨rfl, .inl rfl, by decide, by decide⟩
  have n1 : NmS ⟨P, w, K, mg, base, ["d", "row"], defScope s__law_pick, fun _ => true, k, E⟩ 1 "row" := ⟨rfl, .inl rfl, by decide, by decide⟩
  exact DSs.monoD (dss_cons (ds_ret (de_ix (da_cons (de_sl n1) (da_cons (de_call f__law_draw (Nat.le_trans (by decide) hk) rfl (da_cons (de_sl n0) (da_cons (de_len ⟨rfl, m_len⟩ (da_cons (de_sl n1) (da_nil)) ⟨fun _ => rfl, trivial⟩) (da_nil))) ⟨fun _ => rfl, fun _ => rfl, trivial⟩ rfl rfl (by decide)) (da_nil))) (fun _ _ => rfl))) (dss_nil)) (by decide) (by decide)
theorem i__law_pick {P : Program} {w : World} {K : PySem.W.Frag} {mg : Str → Option Value} {base : Heap} {k : Nat} (f__law_draw : FnI P w K mg base "_law_draw" F__law_draw [0] 2 1) (m_len : mg "len" = none) (hk : 1 ≤ k) {fa : Addr} {fd : FuncData} (Fu : Fun K "_law_pick" "_law_pick" s__law_pick fa fd) (hm : mg "_law_pick" = some (.ref fa)) (bi : Binds K fd ["d", "row"] []) : FnI P w K mg base "_law_pick" F__law_pick [0] 2 (k + 1) := by
  unfold F__law_pick
  exact
  FnI.mk' Fu (fn_rule Fu sc__law_pick (b__law_pick f__law_draw m_len hk) rfl rfl (by decide) (by decide)) hm bi
abbrev s__law_pop : Stmt := topS 8
theorem sc__law_pop : FnScope ["d", "row"] ["d", "row"] (defScope s__law_pop) := ⟨rfl, rfl, rfl, by decide +kernel, rfl, by decide +kernel, by decide +kernel⟩
theorem b__law_pop {P : Program} {w : World} {K : PySem.W.Frag} {mg : Str → Option Value} {base : Heap} {k : Nat} (f__law_draw : FnI P w K mg base "_law_draw" F__law_draw [0] 2 1) (m_len : mg "len" = none) (hk : 1 ≤ k) (E : XK) : DSs ⟨P, w, K, mg, base, ["d", "row"], defScope s__law_pop, fun _ => true, k, E⟩ (defBody s__law_pop) [0, 1] [] g__law_pop := by
  have nd : (["d", "row"] : List Str).Nodup := sc__law_pop.nd
  have n0 : NmS ⟨P, w, K, mg, base, ["d", "row"], defScope s__law_pop, fun _ => true, k, E⟩ 0 "d" := ⟨rfl, .inl rfl, by decide, by decide⟩
  have n1 : NmS ⟨P, w, K, mg, base, ["d", "row"], defScope s__law_pop, fun _ => true, k, E⟩ 1 "row" := ⟨rfl, .inl rfl, by decide, by decide⟩
  exact DSs.monoD (dss_cons (ds_ret (de_popAt n1 (de_call f__law_draw (Nat.le_trans (by decide) hk) rfl (da_cons (de_sl n0) (da_cons (de_len ⟨rfl, m_len⟩ (da_cons (de_sl n1) (da_nil)) ⟨fun _ => rfl, trivial⟩) (da_nil))) ⟨fun _ => rfl, fun _ => rfl, trivial⟩ rfl rfl (by decide)) ⟨fun _ => rfl, trivial⟩ (fun _ => rfl) rfl (fun _ => rfl))) (dss_nil)) (by decide) (by decide)
theorem i__law_pop {P : Program} {w : World} {K : PySem.W.Frag} {mg : Str → Option Value} {base : Heap} {k : Nat} (f__law_draw : FnI P w K mg base "_law_draw" F__law_draw [0] 2 1) (m_len : mg "len" = none) (hk : 1 ≤ k) {fa : Addr} {fd : FuncData} (Fu : Fun K "_law_pop" "_law_pop" s__law_pop fa fd) (hm : mg "_law_pop" = some (.ref fa)) (bi : Binds K fd ["d", "row"] []) : FnI P w K mg base "_law_pop" F__law_pop [0, 1] 2 (k + 1) := by
  unfold F__law_pop
  exact
  FnI.mk' Fu (fn_rule Fu sc__law_pop (b__law_pop f__law_draw m_len hk) rfl rfl (by decide) (by decide)) hm bi
abbrev s__law_rare : Stmt := topS 9
theorem sc__law_rare : FnScope ["d", "many"] ["d", "many"] (defScope s__law_rare) := ⟨rfl, rfl, rfl, by decide +kernel, rfl, by decide +kernel, by decide +kernel⟩
theorem b__law_rare {P : Program} {w : World} {K : PySem.W.Frag} {mg : Str → Option Value} {base : Heap} {k : Nat} (f__law_draw : FnI P w K mg base "_law_draw" F__law_draw [0] 2 1) (hk : 1 ≤ k) (E : XK) : DSs ⟨P, w, K, mg, base, ["d", "many"], defScope s__law_rare, fun _ => true, k, E⟩ (defBody s__law_rare) [0] [] g__law_rare := by
  have nd : (["d", "many"] : List Str).Nodup := sc__law_rare.nd
  have n0 : NmS ⟨P, w, K, mg, base, ["d", "many"], defScope s__law_rare, fun _ => true, k, E⟩ 0 "d" := ⟨rfl, .inl rfl, by decide, by decide⟩
  have n1 : NmS ⟨P, w, K, mg, base, ["d", "many"], defScope s__law_rare, fun _ => true, k, E⟩ 1 "many" := ⟨rfl, .inl rfl, by decide, by decide⟩
  exact DSs.monoD (dss_cons (ds_ret (de_cmp co_eq (da_cons (de_call f__law_draw (Nat.le_trans (by decide) hk) rfl (da_cons (de_sl n0) (da_cons (de_sl n1) (da_nil))) ⟨fun _ => rfl, fun _ => rfl, trivial⟩ rfl rfl (by decide)) (da_cons (de_fdiv (da_cons (de_sl n1) (da_cons (de_int) (da_nil)))) (da_nil))) (nomark _))) (dss_nil)) (by decide) (by decide)
theorem i__law_rare {P : Program} {w : World} {K : PySem.W.Frag} {mg : Str → Option Value} {base : Heap} {k : Nat} (f__law_draw : FnI P w K mg base "_law_draw" F__law_draw [0] 2 1) (hk : 1 ≤ k) {fa : Addr} {fd : FuncData} (Fu : Fun K "_law_rare" "_law_rare" s__law_rare fa fd) (hm : mg "_law_rare" = some (.ref fa)) (bi : Binds K fd ["d", "many"] []) : FnI P w K mg base "_law_rare" F__law_rare [0] 2 (k + 1) := by
  unfold F__law_rare
  exact
  FnI.mk' Fu (fn_rule Fu sc__law_rare (b__law_rare f__law_draw hk) rfl rfl (by decide) (by decide)) hm bi
abbrev s__law_shuffled : Stmt := topS 10
theorem sc__law_shuffled : FnScope ["d", "row", "left", "found", "k"] ["d", "row"] (defScope s__law_shuffled) := ⟨rfl, rfl, rfl, by decide +kernel, rfl, by decide +kernel, by decide +kernel⟩
theorem b__law_shuffled {P : Program} {w : World} {K : PySem.W.Frag} {mg : Str → Option Value} {base : Heap} {k : Nat} (f__law_draw : FnI P w K mg base "_law_draw" F__law_draw [0] 2 1) (m_list : mg "list" = none) (m_len : mg "len" = none) (m_range : mg "range" = none) (hk : 1 ≤ k) (E : XK) : DSs ⟨P, w, K, mg, base, ["d", "row", "left", "found", "k"], defScope s__law_shuffled, fun _ => true, k, E⟩ (defBody s__law_shuffled) [0, 2, 3, 4] [2, 3, 4] g__law_shuffled := by
  have nd : (["d", "row", "left", "found", "k"] : List Str).Nodup := sc__law_shuffled.nd
  have n0 : NmS ⟨P, w, K, mg, base, ["d", "row", "left", "found", "k"], defScope s__law_shuffled, fun _ => true, k, E⟩ 0 "d" := ⟨rfl, .inl rfl, by decide, by decide⟩
  have n1 : NmS ⟨P, w, K, mg, base, ["d", "row", "left", "found", "k"], defScope s__law_shuffled, fun _ => true, k, E⟩ 1 "row" := ⟨rfl, .inl rfl, by decide, by decide⟩
  have n2 : NmS ⟨P, w, K, mg, base, ["d", "row", "left", "found", "k"], defScope s__law_shuffled, fun _ => true, k, E⟩ 2 "left" := ⟨rfl, .inl rfl, by decide, by decide⟩
  have t2 : NmT ⟨P, w, K, mg, base, ["d", "row", "left", "found", "k"], defScope s__law_shuffled, fun _ => true, k, E⟩ 2 "left" := ⟨nd, rfl, .inl rfl, .inl rfl⟩
  have n3 : NmS ⟨P, w, K, mg, base, ["d", "row", "left", "found", "k"], defScope s__law_shuffled, fun _ => true, k, E⟩ 3 "found" := ⟨rfl, .inl rfl, by decide, by decide⟩
  have t3 : NmT ⟨P, w, K, mg, base, ["d", "row", "left", "found", "k"], defScope s__law_shuffled, fun _ => true, k, E⟩ 3 "found" := ⟨nd, rfl, .inl rfl, .inl rfl⟩
  have n4 : NmS ⟨P, w, K, mg, base, ["d", "row", "left", "found", "k"], defScope s__law_shuffled, fun _ => true, k, E⟩ 4 "k" := ⟨rfl, .inl rfl, by decide, by decide⟩
  have t4 : NmT ⟨P, w, K, mg, base, ["d", "row", "left", "found", "k"], defScope s__law_shuffled, fun _ => true, k, E⟩ 4 "k" := ⟨nd, rfl, .inl rfl, .inl rfl⟩
  exact DSs.monoD (dss_cons (ds_asg t2 (de_listC ⟨rfl, m_list⟩ (da_cons (de_sl n1) (da_nil)) ⟨fun _ => rfl, trivial⟩) (fun _ => rfl)) (dss_cons (ds_asg t3 (de_lst (da_nil) rfl trivial) (fun _ => rfl)) (dss_cons (ds_for (di_rng1 ⟨rfl, m_range⟩ (da_cons (de_len ⟨rfl, m_len⟩ (da_cons (de_sl n2) (da_nil)) ⟨fun _ => rfl, trivial⟩) (da_nil)) ⟨fun _ => rfl, trivial⟩) (tg_nm t4) (dss_cons (ds_app n3 (de_popAt n2 (de_call f__law_draw (Nat.le_trans (by decide) hk) rfl (da_cons (de_sl n0) (da_cons (de_len ⟨rfl, m_len⟩ (da_cons (de_sl n2) (da_nil)) ⟨fun _ => rfl, trivial⟩) (da_nil))) ⟨fun _ => rfl, fun _ => rfl, trivial⟩ rfl rfl (by decide)) ⟨fun _ => rfl, trivial⟩ (fun _ => rfl) rfl (fun _ => rfl)) ⟨fun _ => rfl, trivial⟩ (fun _ => rfl) rfl (fun _ => rfl) (fun _ => rfl)) (dss_nil)) (fun _ _ => rfl) (by decide)) (dss_cons (ds_ret (de_mv n3)) (dss_nil))))) (by decide) (by decide)
theorem i__law_shuffled {P : Program} {w : World} {K : PySem.W.Frag} {mg : Str → Option Value} {base : Heap} {k : Nat} (f__law_draw : FnI P w K mg base "_law_draw" F__law_draw [0] 2 1) (m_list : mg "list" = none) (m_len : mg "len" = none) (m_range : mg "range" = none) (hk : 1 ≤ k) {fa : Addr} {fd : FuncData} (Fu : Fun K "_law_shuffled" "_law_shuffled" s__law_shuffled fa fd) (hm : mg "_law_shuffled" = some (.ref fa)) (bi : Binds K fd ["d", "row"] []) : FnI P w K mg base "_law_shuffled" F__law_shuffled [0] 2 (k + 1) := by
  unfold F__law_shuffled
  exact
  FnI.mk' Fu (fn_rule Fu sc__law_shuffled (b__law_shuffled f__law_draw m_list m_len m_range hk) rfl rfl (by decide) (by decide)) hm bi
abbrev s__law_some : Stmt := topS 11
theorem sc__law_some : FnScope ["d", "row", "found", "thing"] ["d", "row"] (defScope s__law_some) := ⟨rfl, rfl, rfl, by decide +kernel, rfl, by decide +kernel, by decide +kernel⟩
theorem b__law_some {P : Program} {w : World} {K : PySem.W.Frag} {mg : Str → Option Value} {base : Heap} {k : Nat} (f__law_draw : FnI P w K mg base "_law_draw" F__law_draw [0] 2 1) (m_len : mg "len" = none) (hk : 1 ≤ k) (E : XK) : DSs ⟨P, w, K, mg, base, ["d", "row", "found", "thing"], defScope s__law_some, fun _ => true, k, E⟩ (defBody s__law_some) [0, 2] [2] g__law_some := by
  have nd : (["d", "row", "found", "thing"] : List Str).Nodup := sc__law_some.nd
  have n0 : NmS ⟨P, w, K, mg, base, ["d", "row", "found", "thing"], defScope s__law_some, fun _ => true, k, E⟩ 0 "d" := ⟨rfl, .inr (.inl rfl), by decide, by decide⟩
  have n1 : NmS ⟨P, w, K, mg, base, ["d", "row", "found", "thing"], defScope s__law_some, fun _ => true, k, E⟩ 1 "row" := ⟨rfl, .inl rfl, by decide, by decide⟩
  have n2 : NmS ⟨P, w, K, mg, base, ["d", "row", "found", "thing"], defScope s__law_some, fun _ => true, k, E⟩ 2 "found" := ⟨rfl, .inl rfl, by decide, by decide⟩
  have t2 : NmT ⟨P, w, K, mg, base, ["d", "row", "found", "thing"], defScope s__law_some, fun _ => true, k, E⟩ 2 "found" := ⟨nd, rfl, .inl rfl, .inl rfl⟩
  exact DSs.monoD (dss_cons (ds_asgLc t2 rfl (fun _ h => sw_true (by rw [h]; rfl) (by rw [h]; rfl) rfl (by decide +kernel)) (own := [("thing", 3)]) (di_seq (de_sl n1)) (blkOk_by (by show blkC ["d", "row", "found", "thing"] (defScope s__law_some) _ _ = true; decide +kernel)) (fun _ _ => rfl) (tg_nm ⟨nd, rfl, .inl rfl, .inr rfl⟩) (by decide) (dts_one (dt_cmp co_eq (da_cons (de_call f__law_draw (Nat.le_trans (by decide) hk) rfl (da_cons (de_sl (⟨rfl, (by first | exact .inr (.inl rfl) | exact .inr (.inr rfl)), by decide, by decide⟩ : NmS _ 0 "d")) (da_cons (de_int) (da_nil))) ⟨fun _ => rfl, fun _ => rfl, trivial⟩ rfl rfl (by decide)) (da_cons (de_int) (da_nil))) (nomark _))) (de_imm (de_sl (⟨rfl, .inl rfl, by decide, by decide⟩ : NmS _ 3 "thing"))) (by decide)) (dss_cons (ds_if (dt_cmp co_eq (da_cons (de_len ⟨rfl, m_len⟩ (da_cons (de_sl n2) (da_nil)) ⟨fun _ => rfl, trivial⟩) (da_cons (de_int) (da_nil))) (nomark _)) (dss_cons (ds_asg t2 (de_lst (da_cons (de_ix (da_cons (de_sl n1) (da_cons (de_call f__law_draw (Nat.le_trans (by decide) hk) rfl (da_cons (de_sl n0) (da_cons (de_len ⟨rfl, m_len⟩ (da_cons (de_sl n1) (da_nil)) ⟨fun _ => rfl, trivial⟩) (da_nil))) ⟨fun _ => rfl, fun _ => rfl, trivial⟩ rfl rfl (by decide)) (da_nil))) (fun _ _ => rfl)) (da_nil)) rfl ⟨fun _ => rfl, trivial⟩) (fun _ => rfl)) (dss_nil)) (dss_nil)) (dss_cons (ds_ret (de_mv n2)) (dss_nil)))) (by decide) (by decide)
theorem i__law_some {P : Program} {w : World} {K : PySem.W.Frag} {mg : Str → Option Value} {base : Heap} {k : Nat} (f__law_draw : FnI P w K mg base "_law_draw" F__law_draw [0] 2 1) (m_len : mg "len" = none) (hk : 1 ≤ k) {fa : Addr} {fd : FuncData} (Fu : Fun K "_law_some" "_law_some" s__law_some fa fd) (hm : mg "_law_some" = some (.ref fa)) (bi : Binds K fd ["d", "row"] []) : FnI P w K mg base "_law_some" F__law_some [0] 2 (k + 1) := by
  unfold F__law_some
  exact
  FnI.mk' Fu (fn_rule Fu sc__law_some (b__law_some f__law_draw m_len hk) rfl rfl (by decide) (by decide)) hm bi
abbrev s__law_pool : Stmt := topS 12
theorem sc__law_pool : FnScope ["text"] [] (defScope s__law_pool) := ⟨rfl, rfl, rfl, by decide +kernel, rfl, by decide +kernel, by decide +kernel⟩
theorem b__law_pool {P : Program} {w : World} {K : PySem.W.Frag} {mg : Str → Option Value} {base : Heap} {k : Nat}  (hk : 0 ≤ k) (E : XK) : DSs ⟨P, w, K, mg, base, ["text"], defScope s__law_pool, fun _ => true, k, E⟩ (defBody s__law_pool) [0] [0] g__law_pool := by
  have nd : (["text"] : List Str).Nodup := sc__law_pool.nd
  have n0 : NmS ⟨P, w, K, mg, base, ["text"], defScope s__law_pool, fun _ => true, k, E⟩ 0 "text" := ⟨rfl, .inl rfl, by decide, by decide⟩
  have t0 : NmT ⟨P, w, K, mg, base, ["text"], defScope s__law_pool, fun _ => true, k, E⟩ 0 "text" := ⟨nd, rfl, .inl rfl, .inl rfl⟩
  exact DSs.monoD (dss_cons (ds_asg t0 (de_str) (fun _ => rfl)) (dss_cons (ds_asg t0 (de_add (da_cons (de_sl n0) (da_cons (de_str) (da_nil)))) (fun _ => rfl)) (dss_cons (ds_ret (de_splitK (da_cons (de_sl n0) (da_nil)) (fun _ => rfl) rfl)) (dss_nil)))) (by decide) (by decide)
theorem i__law_pool {P : Program} {w : World} {K : PySem.W.Frag} {mg : Str → Option Value} {base : Heap} {k : Nat}  (hk : 0 ≤ k) {fa : Addr} {fd : FuncData} (Fu : Fun K "_law_pool" "_law_pool" s__law_pool fa fd) (hm : mg "_law_pool" = some (.ref fa)) (bi : Binds K fd [] []) : FnI P w K mg base "_law_pool" F__law_pool [] 0 (k + 1) := by
  unfold F__law_pool
  exact
  FnI.mk' Fu (fn_rule Fu sc__law_pool (b__law_pool  hk) rfl rfl (by decide) (by decide)) hm bi
abbrev s__law_is_int : Stmt := topS 13
theorem sc__law_is_int : FnScope ["thing"] ["thing"] (defScope s__law_is_int) := ⟨rfl, rfl, rfl, by decide +kernel, rfl, by decide +kernel, by decide +kernel⟩
theorem b__law_is_int {P : Program} {w : World} {K : PySem.W.Frag} {mg : Str → Option Value} {base : Heap} {k : Nat} (m_isinstance : mg "isinstance" = none) (m_bool : mg "bool" = none) (m_int : mg "int" = none) (hk : 0 ≤ k) (E : XK) : DSs ⟨P, w, K, mg, base, ["thing"], defScope s__law_is_int, fun _ => true, k, E⟩ (defBody s__law_is_int) [] [] g__law_is_int := by
  have nd : (["thing"] : List Str).Nodup := sc__law_is_int.nd
  have n0 : NmS ⟨P, w, K, mg, base, ["thing"], defScope s__law_is_int, fun _ => true, k, E⟩ 0 "thing" := ⟨rfl, .inl rfl, by decide, by decide⟩
  exact DSs.monoD (dss_cons (ds_ret (de_andV (de_isi ⟨rfl, m_isinstance⟩ ⟨rfl, m_int⟩ (by decide +kernel) (da_cons (de_sl n0) (da_nil)) ⟨fun _ => rfl, fun _ => rfl, trivial⟩) (de_b1 (de_not (de_isi ⟨rfl, m_isinstance⟩ ⟨rfl, m_bool⟩ (by decide +kernel) (da_cons (de_sl n0) (da_nil)) ⟨fun _ => rfl, fun _ => rfl, trivial⟩))))) (dss_nil)) (by decide) (by decide)
theorem i__law_is_int {P : Program} {w : World} {K : PySem.W.Frag} {mg : Str → Option Value} {base : Heap} {k : Nat} (m_isinstance : mg "isinstance" = none) (m_bool : mg "bool" = none) (m_int : mg "int" = none) (hk : 0 ≤ k) {fa : Addr} {fd : FuncData} (Fu : Fun K "_law_is_int" "_law_is_int" s__law_is_int fa fd) (hm : mg "_law_is_int" = some (.ref fa)) (bi : Binds K fd ["thing"] []) : FnI P w K mg base "_law_is_int" F__law_is_int [] 1 (k + 1) := by
  unfold F__law_is_int
  exact
  FnI.mk' Fu (fn_rule Fu sc__law_is_int (b__law_is_int m_isinstance m_bool m_int hk) rfl rfl (by decide) (by decide)) hm bi
abbrev s__law_letters : Stmt := topS 14
theorem sc__law_letters : FnScope ["d", "most", "names", "roles", "k", "role"] ["d", "most"] (defScope s__law_letters) := ⟨rfl, rfl, rfl, by decide +kernel, rfl, by decide +kernel, by decide +kernel⟩
theorem b__law_letters {P : Program} {w : World} {K : PySem.W.Frag} {mg : Str → Option Value} {base : Heap} {k : Nat} (f__law_pool : FnI P w K mg base "_law_pool" F__law_pool [] 0 1) (f__law_draw : FnI P w K mg base "_law_draw" F__law_draw [0] 2 1) (f__law_pick : FnI P w K mg base "_law_pick" F__law_pick [0] 2 2) (f__law_shuffled : FnI P w K mg base "_law_shuffled" F__law_shuffled [0] 2 2) (f__law_pop : FnI P w K mg base "_law_pop" F__law_pop [0, 1] 2 2) (m_max : mg "max" = none) (m_range : mg "range" = none) (m_tuple : mg "tuple" = none) (hk : 2 ≤ k) (E : XK) : DSs ⟨P, w, K, mg, base, ["d", "most", "names", "roles", "k", "role"], defScope s__law_letters, fun _ => true, k, E⟩ (defBody s__law_letters) [0, 2, 3, 4] [2, 3, 4] g__law_letters := by
  have nd : (["d", "most", "names", "roles", "k", "role"] : List Str).Nodup := sc__law_letters.nd
  have n0 : NmS ⟨P, w, K, mg, base, ["d", "most", "names", "roles", "k", "role"], defScope s__law_letters, fun _ => true, k, E⟩ 0 "d" := ⟨rfl, .inr (.inl rfl), by decide, by decide⟩
  have n1 : NmS ⟨P, w, K, mg, base, ["d", "most", "names", "roles", "k", "role"], defScope s__law_letters, fun _ => true, k, E⟩ 1 "most" := ⟨rfl, .inl rfl, by decide, by decide⟩
  have n2 : NmS ⟨P, w, K, mg, base, ["d", "most", "names", "roles", "k", "role"], defScope s__law_letters, fun _ => true, k, E⟩ 2 "names" := ⟨rfl, .inr (.inl rfl), by decide, by decide⟩
  have t2 : NmT ⟨P, w, K, mg, base, ["d", "most", "names", "roles", "k", "role"], defScope s__law_letters, fun _ => true, k, E⟩ 2 "names" := ⟨nd, rfl, .inr rfl, .inl rfl⟩
  have n3 : NmS ⟨P, w, K, mg, base, ["d", "most", "names", "roles", "k", "role"], defScope s__law_letters, fun _ => true, k, E⟩ 3 "roles" := ⟨rfl, .inl rfl, by decide, by decide⟩
  have t3 : NmT ⟨P, w, K, mg, base, ["d", "most", "names", "roles", "k", "role"], defScope s__law_letters, fun _ => true, k, E⟩ 3 "roles" := ⟨nd, rfl, .inl rfl, .inl rfl⟩
  have n4 : NmS ⟨P, w, K, mg, base, ["d", "most", "names", "roles", "k", "role"], defScope s__law_letters, fun _ => true, k, E⟩ 4 "k" := ⟨rfl, .inl rfl, by decide, by decide⟩
  have t4 : NmT ⟨P, w, K, mg, base, ["d", "most", "names", "roles", "k", "role"], defScope s__law_letters, fun _ => true, k, E⟩ 4 "k" := ⟨nd, rfl, .inl rfl, .inl rfl⟩
  exact DSs.monoD (dss_cons (ds_asg t2 (de_call0 f__law_pool (Nat.le_trans (by decide) hk) rfl) (fun _ => rfl)) (dss_cons (ds_asg t3 (de_lst (da_cons (de_str) (da_cons (de_str) (da_nil))) rfl ⟨fun _ => rfl, fun _ => rfl, trivial⟩) (fun _ => rfl)) (dss_cons (ds_for (di_rng1 ⟨rfl, m_range⟩ (da_cons (de_call f__law_draw (Nat.le_trans (by decide) hk) rfl (da_cons (de_sl n0) (da_cons (de_max2 ⟨rfl, m_max⟩ (da_cons (de_int) (da_cons (de_sub (da_cons (de_sl n1) (da_cons (de_int) (da_nil)))) (da_nil))) ⟨fun _ => rfl, fun _ => rfl, trivial⟩) (da_nil))) ⟨fun _ => rfl, fun _ => rfl, trivial⟩ rfl rfl (by decide)) (da_nil)) ⟨fun _ => rfl, trivial⟩) (tg_nm t4) (dss_cons (ds_app n3 (de_call f__law_pick (Nat.le_trans (by decide) hk) rfl (da_cons (de_sl n0) (da_cons (de_lst (da_cons (de_str) (da_cons (de_str) (da_cons (de_str) (da_cons (de_str) (da_cons (de_str) (da_nil)))))) rfl ⟨fun _ => rfl, fun _ => rfl, fun _ => rfl, fun _ => rfl, fun _ => rfl, trivial⟩) (da_nil))) ⟨fun _ => rfl, fun _ => rfl, trivial⟩ rfl rfl (by decide)) ⟨fun _ => rfl, trivial⟩ (fun _ => rfl) rfl (fun _ => rfl) (fun _ => rfl)) (dss_nil)) (fun _ _ => rfl) (by decide)) (dss_cons (ds_ret (de_tupleC ⟨rfl, m_tuple⟩ (da_cons (de_comp nd (own := [("role", 5)]) (di_seq (de_call f__law_shuffled (Nat.le_trans (by decide) hk) rfl (da_cons (de_sl n0) (da_cons (de_sl n3) (da_nil))) ⟨fun _ => rfl, fun _ => rfl, trivial⟩ rfl rfl (by decide))) (blkOk_by (by show blkC ["d", "most", "names", "roles", "k", "role"] (defScope s__law_letters) _ _ = true; decide +kernel)) (fun _ _ => rfl) (tg_nm ⟨nd, rfl, .inl rfl, .inr rfl⟩) (by decide) (dts_nil) (de_tup (da_cons (de_call f__law_pop (Nat.le_trans (by decide) hk) rfl (da_cons (de_sl (⟨rfl, (by first | exact .inr (.inl rfl) | exact .inr (.inr rfl)), by decide, by decide⟩ : NmS _ 0 "d")) (da_cons (de_sl (⟨rfl, (by first | exact .inr (.inl rfl) | exact .inr (.inr rfl)), by decide, by decide⟩ : NmS _ 2 "names")) (da_nil))) ⟨fun _ => rfl, fun _ => rfl, trivial⟩ rfl rfl (by decide)) (da_cons (de_imm (de_sl (⟨rfl, .inl rfl, by decide, by decide⟩ : NmS _ 5 "role"))) (da_nil))) rfl ⟨fun _ => rfl, fun _ => rfl, trivial⟩) (by decide)) (da_nil)) ⟨fun _ => rfl, trivial⟩)) (dss_nil))))) (by decide) (by decide)
theorem i__law_letters {P : Program} {w : World} {K : PySem.W.Frag} {mg : Str → Option Value} {base : Heap} {k : Nat} (f__law_pool : FnI P w K mg base "_law_pool" F__law_pool [] 0 1) (f__law_draw : FnI P w K mg base "_law_draw" F__law_draw [0] 2 1) (f__law_pick : FnI P w K mg base "_law_pick" F__law_pick [0] 2 2) (f__law_shuffled : FnI P w K mg base "_law_shuffled" F__law_shuffled [0] 2 2) (f__law_pop : FnI P w K mg base "_law_pop" F__law_pop [0, 1] 2 2) (m_max : mg "max" = none) (m_range : mg "range" = none) (m_tuple : mg "tuple" = none) (hk : 2 ≤ k) {fa : Addr} {fd : FuncData} (Fu : Fun K "_law_letters" "_law_letters" s__law_letters fa fd) (hm : mg "_law_letters" = some (.ref fa)) (bi : Binds K fd ["d", "most"] []) : FnI P w K mg base "_law_letters" F__law_letters [0] 2 (k + 1) := by
  unfold F__law_letters
  exact
  FnI.mk' Fu (fn_rule Fu sc__law_letters (b__law_letters f__law_pool f__law_draw f__law_pick f__law_shuffled f__law_pop m_max m_range m_tuple hk) rfl rfl (by decide) (by decide)) hm bi
abbrev s__law_labels : Stmt := topS 15
theorem sc__law_labels : FnScope [] [] (defScope s__law_labels) := ⟨rfl, rfl, rfl, by decide +kernel, rfl, by decide +kernel, by decide +kernel⟩
theorem b__law_labels {P : Program} {w : World} {K : PySem.W.Frag} {mg : Str → Option Value} {base : Heap} {k : Nat}  (hk : 0 ≤ k) (E : XK) : DSs ⟨P, w, K, mg, base, [], defScope s__law_labels, fun _ => true, k, E⟩ (defBody s__law_labels) [] [] g__law_labels := by
  have nd : ([] : List Str).Nodup := sc__law_labels.nd
  exact DSs.monoD (dss_cons (ds_ret (de_lst (da_cons (de_str) (da_cons (de_str) (da_cons (de_str) (da_cons (de_str) (da_cons (de_str) (da_cons (de_str) (da_cons (de_str) (da_cons (de_str) (da_nil))))))))) rfl ⟨fun _ => rfl, fun _ => rfl, fun _ => rfl, fun _ => rfl, fun _ => rfl, fun _ => rfl, fun _ => rfl, fun _ => rfl, trivial⟩)) (dss_nil)) (by decide) (by decide)
theorem i__law_labels {P : Program} {w : World} {K : PySem.W.Frag} {mg : Str → Option Value} {base : Heap} {k : Nat}  (hk : 0 ≤ k) {fa : Addr} {fd : FuncData} (Fu : Fun K "_law_labels" "_law_labels" s__law_labels fa fd) (hm : mg "_law_labels" = some (.ref fa)) (bi : Binds K fd [] []) : FnI P w K mg base "_law_labels" F__law_labels [] 0 (k + 1) := by
  unfold F__law_labels
  exact
  FnI.mk' Fu (fn_rule Fu sc__law_labels (b__law_labels  hk) rfl rfl (by decide) (by decide)) hm bi
abbrev s__law_sieve : Stmt := topS 16
theorem sc__law_sieve : FnScope ["d", "letters", "kept", "letter", "role"] ["d", "letters"] (defScope s__law_sieve) := ⟨rfl, rfl, rfl, by decide +kernel, rfl, by decide +kernel, by decide +kernel⟩
theorem b__law_sieve {P : Program} {w : World} {K : PySem.W.Frag} {mg : Str → Option Value} {base : Heap} {k : Nat} (f__law_draw : FnI P w K mg base "_law_draw" F__law_draw [0] 2 1) (f__law_some : FnI P w K mg base "_law_some" F__law_some [0] 2 2) (m_tuple : mg "tuple" = none) (hk : 2 ≤ k) (E : XK) : DSs ⟨P, w, K, mg, base, ["d", "letters", "kept", "letter", "role"], defScope s__law_sieve, fun _ => true, k, E⟩ (defBody s__law_sieve) [0, 2] [2] g__law_sieve := by
  have nd : (["d", "letters", "kept", "letter", "role"] : List Str).Nodup := sc__law_sieve.nd
  have n0 : NmS ⟨P, w, K, mg, base, ["d", "letters", "kept", "letter", "role"], defScope s__law_sieve, fun _ => true, k, E⟩ 0 "d" := ⟨rfl, .inl rfl, by decide, by decide⟩
  have n1 : NmS ⟨P, w, K, mg, base, ["d", "letters", "kept", "letter", "role"], defScope s__law_sieve, fun _ => true, k, E⟩ 1 "letters" := ⟨rfl, .inl rfl, by decide, by decide⟩
  have n2 : NmS ⟨P, w, K, mg, base, ["d", "letters", "kept", "letter", "role"], defScope s__law_sieve, fun _ => true, k, E⟩ 2 "kept" := ⟨rfl, .inr (.inl rfl), by decide, by decide⟩
  have t2 : NmT ⟨P, w, K, mg, base, ["d", "letters", "kept", "letter", "role"], defScope s__law_sieve, fun _ => true, k, E⟩ 2 "kept" := ⟨nd, rfl, .inr rfl, .inl rfl⟩
  exact DSs.monoD (dss_cons (ds_if (dt_cmp co_gt (da_cons (de_call f__law_draw (Nat.le_trans (by decide) hk) rfl (da_cons (de_sl n0) (da_cons (de_int) (da_nil))) ⟨fun _ => rfl, fun _ => rfl, trivial⟩ rfl rfl (by decide)) (da_cons (de_int) (da_nil))) (nomark _)) (dss_cons (ds_ret (de_tupleC ⟨rfl, m_tuple⟩ (da_cons (de_comp nd (own := [("letter", 3), ("role", 4)]) (di_seq (de_sl n1)) (blkOk_by (by show blkC ["d", "letters", "kept", "letter", "role"] (defScope s__law_sieve) _ _ = true; decide +kernel)) (fun _ _ => rfl) (tg_tup (TgsOk.cons ⟨nd, rfl, .inl rfl, .inr rfl⟩ (TgsOk.cons ⟨nd, rfl, .inl rfl, .inr rfl⟩ (TgsOk.nil) (fun _ => rfl)) (fun _ => rfl)) (fun _ => rfl) (fun _ => rfl)) (by decide) (dts_nil) (de_imm (de_sl (⟨rfl, .inl rfl, by decide, by decide⟩ : NmS _ 3 "letter"))) (by decide)) (da_nil)) ⟨fun _ => rfl, trivial⟩)) (dss_nil)) (dss_nil)) (dss_cons (ds_asg t2 (de_call f__law_some (Nat.le_trans (by decide) hk) rfl (da_cons (de_sl n0) (da_cons (de_comp nd (own := [("letter", 3), ("role", 4)]) (di_seq (de_sl n1)) (blkOk_by (by show blkC ["d", "letters", "kept", "letter", "role"] (defScope s__law_sieve) _ _ = true; decide +kernel)) (fun _ _ => rfl) (tg_tup (TgsOk.cons ⟨nd, rfl, .inl rfl, .inr rfl⟩ (TgsOk.cons ⟨nd, rfl, .inl rfl, .inr rfl⟩ (TgsOk.nil) (fun _ => rfl)) (fun _ => rfl)) (fun _ => rfl) (fun _ => rfl)) (by decide) (dts_nil) (de_imm (de_sl (⟨rfl, .inl rfl, by decide, by decide⟩ : NmS _ 3 "letter"))) (by decide)) (da_nil))) ⟨fun _ => rfl, fun _ => rfl, trivial⟩ rfl rfl (by decide)) (fun _ => rfl)) (dss_cons (ds_ret (de_tupleC ⟨rfl, m_tuple⟩ (da_cons (de_comp nd (own := [("letter", 3), ("role", 4)]) (di_seq (de_sl n1)) (blkOk_by (by show blkC ["d", "letters", "kept", "letter", "role"] (defScope s__law_sieve) _ _ = true; decide +kernel)) (fun _ _ => rfl) (tg_tup (TgsOk.cons ⟨nd, rfl, .inl rfl, .inr rfl⟩ (TgsOk.cons ⟨nd, rfl, .inl rfl, .inr rfl⟩ (TgsOk.nil) (fun _ => rfl)) (fun _ => rfl)) (fun _ => rfl) (fun _ => rfl)) (by decide) (dts_one (dt_cmp co_in (da_cons (de_sl (⟨rfl, .inl rfl, by decide, by decide⟩ : NmS _ 3 "letter")) (da_cons (de_sl (⟨rfl, (by first | exact .inr (.inl rfl) | exact .inr (.inr rfl)), by decide, by decide⟩ : NmS _ 2 "kept")) (da_nil))) (by rfl))) (de_imm (de_sl (⟨rfl, .inl rfl, by decide, by decide⟩ : NmS _ 3 "letter"))) (by decide)) (da_nil)) ⟨fun _ => rfl, trivial⟩)) (dss_nil)))) (by decide) (by decide)
theorem i__law_sieve {P : Program} {w : World} {K : PySem.W.Frag} {mg : Str → Option Value} {base : Heap} {k : Nat} (f__law_draw : FnI P w K mg base "_law_draw" F__law_draw [0] 2 1) (f__law_some : FnI P w K mg base "_law_some" F__law_some [0] 2 2) (m_tuple : mg "tuple" = none) (hk : 2 ≤ k) {fa : Addr} {fd : FuncData} (Fu : Fun K "_law_sieve" "_law_sieve" s__law_sieve fa fd) (hm : mg "_law_sieve" = some (.ref fa)) (bi : Binds K fd ["d", "letters"] []) : FnI P w K mg base "_law_sieve" F__law_sieve [0] 2 (k + 1) := by
  unfold F__law_sieve
  exact
  FnI.mk' Fu (fn_rule Fu sc__law_sieve (b__law_sieve f__law_draw f__law_some m_tuple hk) rfl rfl (by decide) (by decide)) hm bi
abbrev s__law_filter_for : Stmt := topS 17
theorem sc__law_filter_for : FnScope ["d", "letters", "label", "first", "roles", "kept", "letter", "role"] ["d", "letters", "label", "first"] (defScope s__law_filter_for) := ⟨rfl, rfl, rfl, by decide +kernel, rfl, by decide +kernel, by decide +kernel⟩
theorem b__law_filter_for {P : Program} {w : World} {K : PySem.W.Frag} {mg : Str → Option Value} {base : Heap} {k : Nat} (f__law_draw : FnI P w K mg base "_law_draw" F__law_draw [0] 2 1) (f__law_sieve : FnI P w K mg base "_law_sieve" F__law_sieve [0] 2 3) (m_tuple : mg "tuple" = none) (m_len : mg "len" = none) (hk : 3 ≤ k) (E : XK) : DSs ⟨P, w, K, mg, base, ["d", "letters", "label", "first", "roles", "kept", "letter", "role"], defScope s__law_filter_for, fun _ => true, k, E⟩ (defBody s__law_filter_for) [0, 4, 5] [4, 5] g__law_filter_for := by
  have nd : (["d", "letters", "label", "first", "roles", "kept", "letter", "role"] : List Str).Nodup := sc__law_filter_for.nd
  have n0 : NmS ⟨P, w, K, mg, base, ["d", "letters", "label", "first", "roles", "kept", "letter", "role"], defScope s__law_filter_for, fun _ => true, k, E⟩ 0 "d" := ⟨rfl, .inl rfl, by decide, by decide⟩
  have n1 : NmS ⟨P, w, K, mg, base, ["d", "letters", "label", "first", "roles", "kept", "letter", "role"], defScope s__law_filter_for, fun _ => true, k, E⟩ 1 "letters" := ⟨rfl, .inl rfl, by decide, by decide⟩
  have n2 : NmS ⟨P, w, K, mg, base, ["d", "letters", "label", "first", "roles", "kept", "letter", "role"], defScope s__law_filter_for, fun _ => true, k, E⟩ 2 "label" := ⟨rfl, .inr (.inl rfl), by decide, by decide⟩
  have n3 : NmS ⟨P, w, K, mg, base, ["d", "letters", "label", "first", "roles", "kept", "letter", "role"], defScope s__law_filter_for, fun _ => true, k, E⟩ 3 "first" := ⟨rfl, .inl rfl, by decide, by decide⟩
  have n4 : NmS ⟨P, w, K, mg, base, ["d", "letters", "label", "first", "roles", "kept", "letter", "role"], defScope s__law_filter_for, fun _ => true, k, E⟩ 4 "roles" := ⟨rfl, .inr (.inl rfl), by decide, by decide⟩
  have t4 : NmT ⟨P, w, K, mg, base, ["d", "letters", "label", "first", "roles", "kept", "letter", "role"], defScope s__law_filter_for, fun _ => true, k, E⟩ 4 "roles" := ⟨nd, rfl, .inr rfl, .inl rfl⟩
  have n5 : NmS ⟨P, w, K, mg, base, ["d", "letters", "label", "first", "roles", "kept", "letter", "role"], defScope s__law_filter_for, fun _ => true, k, E⟩ 5 "kept" := ⟨rfl, .inl rfl, by decide, by decide⟩
  have t5 : NmT ⟨P, w, K, mg, base, ["d", "letters", "label", "first", "roles", "kept", "letter", "role"], defScope s__law_filter_for, fun _ => true, k, E⟩ 5 "kept" := ⟨nd, rfl, .inl rfl, .inl rfl⟩
  exact DSs.monoD (dss_cons (ds_asg t4 (de_disp (da_cons (de_str) (da_cons (de_tup (da_cons (de_str) (da_cons (de_str) (da_nil))) rfl ⟨fun _ => rfl, fun _ => rfl, trivial⟩) (da_cons (de_str) (da_cons (de_tup (da_cons (de_str) (da_cons (de_str) (da_nil))) rfl ⟨fun _ => rfl, fun _ => rfl, trivial⟩) (da_cons (de_str) (da_cons (de_tup (da_cons (de_str) (da_cons (de_str) (da_nil))) rfl ⟨fun _ => rfl, fun _ => rfl, trivial⟩) (da_cons (de_str) (da_cons (de_tup (da_cons (de_str) (da_nil)) rfl ⟨fun _ => rfl, trivial⟩) (da_nil))))))))) rfl rfl rfl rfl rfl) (fun _ => rfl)) (dss_cons (ds_if (dt_not (dt_tr (de_sl n3) (fun _ _ => rfl))) (dss_cons (ds_asg t4 (de_disp (da_cons (de_str) (da_cons (de_tup (da_cons (de_str) (da_nil)) rfl ⟨fun _ => rfl, trivial⟩) (da_cons (de_str) (da_cons (de_tup (da_cons (de_str) (da_nil)) rfl ⟨fun _ => rfl, trivial⟩) (da_cons (de_str) (da_cons (de_tup (da_cons (de_str) (da_cons (de_str) (da_nil))) rfl ⟨fun _ => rfl, fun _ => rfl, trivial⟩) (da_cons (de_str) (da_cons (de_tup (da_cons (de_str) (da_cons (de_str) (da_nil))) rfl ⟨fun _ => rfl, fun _ => rfl, trivial⟩) (da_nil))))))))) rfl rfl rfl rfl rfl) (fun _ => rfl)) (dss_nil)) (dss_nil)) (dss_cons (ds_if (dt_w (dw_or (dt_inK (.inr ⟨rfl, rfl⟩) (da_cons (de_sl n2) (da_cons (de_sl n4) (da_nil))) (by rfl)) (dw_or1 (dt_cmp co_eq (da_cons (de_call f__law_draw (Nat.le_trans (by decide) hk) rfl (da_cons (de_sl n0) (da_cons (de_int) (da_nil))) ⟨fun _ => rfl, fun _ => rfl, trivial⟩ rfl rfl (by decide)) (da_cons (de_int) (da_nil))) (nomark _))))) (dss_cons (ds_ret (de_call f__law_sieve (Nat.le_trans (by decide) hk) rfl (da_cons (de_sl n0) (da_cons (de_sl n1) (da_nil))) ⟨fun _ => rfl, fun _ => rfl, trivial⟩ rfl rfl (by decide))) (dss_nil)) (dss_nil)) (dss_cons (ds_asg t5 (de_tupleC ⟨rfl, m_tuple⟩ (da_cons (de_comp nd (own := [("letter", 6), ("role", 7)]) (di_seq (de_sl n1)) (blkOk_by (by show blkC ["d", "letters", "label", "first", "roles", "kept", "letter", "role"] (defScope s__law_filter_for) _ _ = true; decide +kernel)) (fun _ _ => rfl) (tg_tup (TgsOk.cons ⟨nd, rfl, .inl rfl, .inr rfl⟩ (TgsOk.cons ⟨nd, rfl, .inl rfl, .inr rfl⟩ (TgsOk.nil) (fun _ => rfl)) (fun _ => rfl)) (fun _ => rfl) (fun _ => rfl)) (by decide) (dts_one (dt_cmp co_in (da_cons (de_sl (⟨rfl, .inl rfl, by decide, by decide⟩ : NmS _ 7 "role")) (da_cons (de_dget (da_cons (de_sl (⟨rfl, (by first | exact .inr (.inl rfl) | exact .inr (.inr rfl)), by decide, by decide⟩ : NmS _ 4 "roles")) (da_cons (de_sl (⟨rfl, (by first | exact .inr (.inl rfl) | exact .inr (.inr rfl)), by decide, by decide⟩ : NmS _ 2 "label")) (da_nil))) (fun _ _ => rfl)) (da_nil))) (by rfl))) (de_imm (de_sl (⟨rfl, .inl rfl, by decide, by decide⟩ : NmS _ 6 "letter"))) (by decide)) (da_nil)) ⟨fun _ => rfl, trivial⟩) (fun _ => rfl)) (dss_cons (ds_if (dt_cmp co_eq (da_cons (de_len ⟨rfl, m_len⟩ (da_cons (de_sl n5) (da_nil)) ⟨fun _ => rfl, trivial⟩) (da_cons (de_int) (da_nil))) (nomark _)) (dss_cons (ds_ret (de_call f__law_sieve (Nat.le_trans (by decide) hk) rfl (da_cons (de_sl n0) (da_cons (de_sl n1) (da_nil))) ⟨fun _ => rfl, fun _ => rfl, trivial⟩ rfl rfl (by decide))) (dss_nil)) (dss_nil)) (dss_cons (ds_ret (de_imm (de_sl n5))) (dss_nil))))))) (by decide) (by decide)
theorem i__law_filter_for {P : Program} {w : World} {K : PySem.W.Frag} {mg : Str → Option Value} {base : Heap} {k : Nat} (f__law_draw : FnI P w K mg base "_law_draw" F__law_draw [0] 2 1) (f__law_sieve : FnI P w K mg base "_law_sieve" F__law_sieve [0] 2 3) (m_tuple : mg "tuple" = none) (m_len : mg "len" = none) (hk : 3 ≤ k) {fa : Addr} {fd : FuncData} (Fu : Fun K "_law_filter_for" "_law_filter_for" s__law_filter_for fa fd) (hm : mg "_law_filter_for" = some (.ref fa)) (bi : Binds K fd ["d", "letters", "label", "first"] []) : FnI P w K mg base "_law_filter_for" F__law_filter_for [0] 4 (k + 1) := by
  unfold F__law_filter_for
  exact
  FnI.mk' Fu (fn_rule Fu sc__law_filter_for (b__law_filter_for f__law_draw f__law_sieve m_tuple m_len hk) rfl rfl (by decide) (by decide)) hm bi
abbrev s__law_word : Stmt := topS 18
theorem sc__law_word : FnScope ["d", "letters", "most", "count", "labels", "filters", "label", "k"] ["d", "letters", "most"] (defScope s__law_word) := ⟨rfl, rfl, rfl, by decide +kernel, rfl, by decide +kernel, by decide +kernel⟩
theorem b__law_word {P : Program} {w : World} {K : PySem.W.Frag} {mg : Str → Option Value} {base : Heap} {k : Nat} (f__law_draw : FnI P w K mg base "_law_draw" F__law_draw [0] 2 1) (f__law_pick : FnI P w K mg base "_law_pick" F__law_pick [0] 2 2) (f__law_labels : FnI P w K mg base "_law_labels" F__law_labels [] 0 1) (f__law_filter_for : FnI P w K mg base "_law_filter_for" F__law_filter_for [0] 4 4) (m_range : mg "range" = none) (m_tuple : mg "tuple" = none) (hk : 4 ≤ k) (E : XK) : DSs ⟨P, w, K, mg, base, ["d", "letters", "most", "count", "labels", "filters", "label", "k"], defScope s__law_word, fun _ => true, k, E⟩ (defBody s__law_word) [0, 3, 4, 5, 6] [3, 4, 5, 6] g__law_word := by
  have nd : (["d", "letters", "most", "count", "labels", "filters", "label", "k"] : List Str).Nodup := sc__law_word.nd
  have n0 : NmS ⟨P, w, K, mg, base, ["d", "letters", "most", "count", "labels", "filters", "label", "k"], defScope s__law_word, fun _ => true, k, E⟩ 0 "d" := ⟨rfl, .inr (.inl rfl), by decide, by decide⟩
  have n1 : NmS ⟨P, w, K, mg, base, ["d", "letters", "most", "count", "labels", "filters", "label", "k"], defScope s__law_word, fun _ => true, k, E⟩ 1 "letters" := ⟨rfl, .inl rfl, by decide, by decide⟩
  have n2 : NmS ⟨P, w, K, mg, base, ["d", "letters", "most", "count", "labels", "filters", "label", "k"], defScope s__law_word, fun _ => true, k, E⟩ 2 "most" := ⟨rfl, .inl rfl, by decide, by decide⟩
  have n3 : NmS ⟨P, w, K, mg, base, ["d", "letters", "most", "count", "labels", "filters", "label", "k"], defScope s__law_word, fun _ => true, k, E⟩ 3 "count" := ⟨rfl, .inl rfl, by decide, by decide⟩
  have t3 : NmT ⟨P, w, K, mg, base, ["d", "letters", "most", "count", "labels", "filters", "label", "k"], defScope s__law_word, fun _ => true, k, E⟩ 3 "count" := ⟨nd, rfl, .inl rfl, .inl rfl⟩
  have n4 : NmS ⟨P, w, K, mg, base, ["d", "letters", "most", "count", "labels", "filters", "label", "k"], defScope s__law_word, fun _ => true, k, E⟩ 4 "labels" := ⟨rfl, .inl rfl, by decide, by decide⟩
  have t4 : NmT ⟨P, w, K, mg, base, ["d", "letters", "most", "count", "labels", "filters", "label", "k"], defScope s__law_word, fun _ => true, k, E⟩ 4 "labels" := ⟨nd, rfl, .inl rfl, .inl rfl⟩
  have n5 : NmS ⟨P, w, K, mg, base, ["d", "letters", "most", "count", "labels", "filters", "label", "k"], defScope s__law_word, fun _ => true, k, E⟩ 5 "filters" := ⟨rfl, .inl rfl, by decide, by decide⟩
  have t5 : NmT ⟨P, w, K, mg, base, ["d", "letters", "most", "count", "labels", "filters", "label", "k"], defScope s__law_word, fun _ => true, k, E⟩ 5 "filters" := ⟨nd, rfl, .inl rfl, .inl rfl⟩
  have n6 : NmS ⟨P, w, K, mg, base, ["d", "letters", "most", "count", "labels", "filters", "label", "k"], defScope s__law_word, fun _ => true, k, E⟩ 6 "label" := ⟨rfl, .inl rfl, by decide, by decide⟩
  have t6 : NmT ⟨P, w, K, mg, base, ["d", "letters", "most", "count", "labels", "filters", "label", "k"], defScope s__law_word, fun _ => true, k, E⟩ 6 "label" := ⟨nd, rfl, .inl rfl, .inl rfl⟩
  exact DSs.monoD (dss_cons (ds_asg t3 (de_int) (fun _ => rfl)) (dss_cons (ds_if (dt_w (dw_and (dt_cmp co_gt (da_cons (de_sl n2) (da_cons (de_int) (da_nil))) (nomark _)) (dw_and1 (dt_cmp co_eq (da_cons (de_call f__law_draw (Nat.le_trans (by decide) hk) rfl (da_cons (de_sl n0) (da_cons (de_int) (da_nil))) ⟨fun _ => rfl, fun _ => rfl, trivial⟩ rfl rfl (by decide)) (da_cons (de_int) (da_nil))) (nomark _))))) (dss_cons (ds_asg t3 (de_add (da_cons (de_int) (da_cons (de_call f__law_draw (Nat.le_trans (by decide) hk) rfl (da_cons (de_sl n0) (da_cons (de_sub (da_cons (de_sl n2) (da_cons (de_int) (da_nil)))) (da_nil))) ⟨fun _ => rfl, fun _ => rfl, trivial⟩ rfl rfl (by decide)) (da_nil)))) (fun _ => rfl)) (dss_nil)) (dss_nil)) (dss_cons (ds_asgLc t4 rfl (fun _ h => sw_true (by rw [h]; rfl) (by rw [h]; rfl) rfl (by decide +kernel)) (own := [("k", 7)]) (di_rng1 ⟨rfl, m_range⟩ (da_cons (de_sl n3) (da_nil)) ⟨fun _ => rfl, trivial⟩) (blkOk_by (by show blkC ["d", "letters", "most", "count", "labels", "filters", "label", "k"] (defScope s__law_word) _ _ = true; decide +kernel)) (fun _ _ => rfl) (tg_nm ⟨nd, rfl, .inl rfl, .inr rfl⟩) (by decide) (dts_nil) (de_call f__law_pick (Nat.le_trans (by decide) hk) rfl (da_cons (de_sl (⟨rfl, (by first | exact .inr (.inl rfl) | exact .inr (.inr rfl)), by decide, by decide⟩ : NmS _ 0 "d")) (da_cons (de_add (da_cons (de_call0 f__law_labels (Nat.le_trans (by decide) hk) rfl) (da_cons (de_lst (da_cons (de_str) (da_cons (de_str) (da_cons (de_str) (da_cons (de_str) (da_nil))))) rfl ⟨fun _ => rfl, fun _ => rfl, fun _ => rfl, fun _ => rfl, trivial⟩) (da_nil)))) (da_nil))) ⟨fun _ => rfl, fun _ => rfl, trivial⟩ rfl rfl (by decide)) (by decide)) (dss_cons (ds_asg t5 (de_lst (da_cons (de_call f__law_filter_for (Nat.le_trans (by decide) hk) rfl (da_cons (de_sl n0) (da_cons (de_sl n1) (da_cons (de_ix (da_cons (de_sl n4) (da_cons (de_int) (da_nil))) (fun _ _ => rfl)) (da_cons (de_bl) (da_nil))))) ⟨fun _ => rfl, fun _ => rfl, fun _ => rfl, fun _ => rfl, trivial⟩ rfl rfl (by decide)) (da_nil)) rfl ⟨fun _ => rfl, trivial⟩) (fun _ => rfl)) (dss_cons (ds_for (di_seq (de_sl n4)) (tg_nm t6) (dss_cons (ds_app n5 (de_call f__law_filter_for (Nat.le_trans (by decide) hk) rfl (da_cons (de_sl n0) (da_cons (de_sl n1) (da_cons (de_imm (de_sl n6)) (da_cons (de_bl) (da_nil))))) ⟨fun _ => rfl, fun _ => rfl, fun _ => rfl, fun _ => rfl, trivial⟩ rfl rfl (by decide)) ⟨fun _ => rfl, trivial⟩ (fun _ => rfl) rfl (fun _ => rfl) (fun _ => rfl)) (dss_nil)) (fun _ _ => rfl) (by decide)) (dss_cons (ds_ret (de_tup (da_cons (de_tupleC ⟨rfl, m_tuple⟩ (da_cons (de_sl n5) (da_nil)) ⟨fun _ => rfl, trivial⟩) (da_cons (de_tupleC ⟨rfl, m_tuple⟩ (da_cons (de_sl n4) (da_nil)) ⟨fun _ => rfl, trivial⟩) (da_nil))) rfl ⟨fun _ => rfl, fun _ => rfl, trivial⟩)) (dss_nil))))))) (by decide) (by decide)
theorem i__law_word {P : Program} {w : World} {K : PySem.W.Frag} {mg : Str → Option Value} {base : Heap} {k : Nat} (f__law_draw : FnI P w K mg base "_law_draw" F__law_draw [0] 2 1) (f__law_pick : FnI P w K mg base "_law_pick" F__law_pick [0] 2 2) (f__law_labels : FnI P w K mg base "_law_labels" F__law_labels [] 0 1) (f__law_filter_for : FnI P w K mg base "_law_filter_for" F__law_filter_for [0] 4 4) (m_range : mg "range" = none) (m_tuple : mg "tuple" = none) (hk : 4 ≤ k) {fa : Addr} {fd : FuncData} (Fu : Fun K "_law_word" "_law_word" s__law_word fa fd) (hm : mg "_law_word" = some (.ref fa)) (bi : Binds K fd ["d", "letters", "most"] []) : FnI P w K mg base "_law_word" F__law_word [0] 3 (k + 1) := by
  unfold F__law_word
  exact
  FnI.mk' Fu (fn_rule Fu sc__law_word (b__law_word f__law_draw f__law_pick f__law_labels f__law_filter_for m_range m_tuple hk) rfl rfl (by decide) (by decide)) hm bi
abbrev s__law_words : Stmt := topS 19
theorem sc__law_words : FnScope ["d", "letters", "count", "most", "found", "k", "word"] ["d", "letters", "count", "most"] (defScope s__law_words) := ⟨rfl, rfl, rfl, by decide +kernel, rfl, by decide +kernel, by decide +kernel⟩
theorem b__law_words {P : Program} {w : World} {K : PySem.W.Frag} {mg : Str → Option Value} {base : Heap} {k : Nat} (f__law_word : FnI P w K mg base "_law_word" F__law_word [0] 3 5) (m_range : mg "range" = none) (hk : 5 ≤ k) (E : XK) : DSs ⟨P, w, K, mg, base, ["d", "letters", "count", "most", "found", "k", "word"], defScope s__law_words, fun _ => true, k, E⟩ (defBody s__law_words) [0, 4, 5, 6] [4, 5, 6] g__law_words := by
  have nd : (["d", "letters", "count", "most", "found", "k", "word"] : List Str).Nodup := sc__law_words.nd
  have n0 : NmS ⟨P, w, K, mg, base, ["d", "letters", "count", "most", "found", "k", "word"], defScope s__law_words, fun _ => true, k, E⟩ 0 "d" := ⟨rfl, .inl rfl, by decide, by decide⟩
  have n1 : NmS ⟨P, w, K, mg, base, ["d", "letters", "count", "most", "found", "k", "word"], defScope s__law_words, fun _ => true, k, E⟩ 1 "letters" := ⟨rfl, .inl rfl, by decide, by decide⟩
  have n2 : NmS ⟨P, w, K, mg, base, ["d", "letters", "count", "most", "found", "k", "word"], defScope s__law_words, fun _ => true, k, E⟩ 2 "count" := ⟨rfl, .inl rfl, by decide, by decide⟩
  have n3 : NmS ⟨P, w, K, mg, base, ["d", "letters", "count", "most", "found", "k", "word"], defScope s__law_words, fun _ => true, k, E⟩ 3 "most" := ⟨rfl, .inl rfl, by decide, by decide⟩
  have n4 : NmS ⟨P, w, K, mg, base, ["d", "letters", "count", "most", "found", "k", "word"], defScope s__law_words, fun _ => true, k, E⟩ 4 "found" := ⟨rfl, .inl rfl, by decide, by decide⟩
  have t4 : NmT ⟨P, w, K, mg, base, ["d", "letters", "count", "most", "found", "k", "word"], defScope s__law_words, fun _ => true, k, E⟩ 4 "found" := ⟨nd, rfl, .inl rfl, .inl rfl⟩
  have n5 : NmS ⟨P, w, K, mg, base, ["d", "letters", "count", "most", "found", "k", "word"], defScope s__law_words, fun _ => true, k, E⟩ 5 "k" := ⟨rfl, .inl rfl, by decide, by decide⟩
  have t5 : NmT ⟨P, w, K, mg, base, ["d", "letters", "count", "most", "found", "k", "word"], defScope s__law_words, fun _ => true, k, E⟩ 5 "k" := ⟨nd, rfl, .inl rfl, .inl rfl⟩
  have n6 : NmS ⟨P, w, K, mg, base, ["d", "letters", "count", "most", "found", "k", "word"], defScope s__law_words, fun _ => true, k, E⟩ 6 "word" := ⟨rfl, .inl rfl, by decide, by decide⟩
  have t6 : NmT ⟨P, w, K, mg, base, ["d", "letters", "count", "most", "found", "k", "word"], defScope s__law_words, fun _ => true, k, E⟩ 6 "word" := ⟨nd, rfl, .inl rfl, .inl rfl⟩
  exact DSs.monoD (dss_cons (ds_asg t4 (de_lst (da_nil) rfl trivial) (fun _ => rfl)) (dss_cons (ds_for (di_rng1 ⟨rfl, m_range⟩ (da_cons (de_sl n2) (da_nil)) ⟨fun _ => rfl, trivial⟩) (tg_nm t5) (dss_cons (ds_asg t6 (de_call f__law_word (Nat.le_trans (by decide) hk) rfl (da_cons (de_sl n0) (da_cons (de_sl n1) (da_cons (de_sl n3) (da_nil)))) ⟨fun _ => rfl, fun _ => rfl, fun _ => rfl, trivial⟩ rfl rfl (by decide)) (fun _ => rfl)) (dss_cons (ds_if (dt_cmp co_nin (da_cons (de_sl n6) (da_cons (de_sl n4) (da_nil))) (by rfl)) (dss_cons (ds_app n4 (de_imm (de_sl n6)) ⟨fun _ => rfl, trivial⟩ (fun _ => rfl) rfl (fun _ => rfl) (fun _ => rfl)) (dss_nil)) (dss_nil)) (dss_nil))) (fun _ _ => rfl) (by decide)) (dss_cons (ds_ret (de_mv n4)) (dss_nil)))) (by decide) (by decide)
theorem i__law_words {P : Program} {w : World} {K : PySem.W.Frag} {mg : Str → Option Value} {base : Heap} {k : Nat} (f__law_word : FnI P w K mg base "_law_word" F__law_word [0] 3 5) (m_range : mg "range" = none) (hk : 5 ≤ k) {fa : Addr} {fd : FuncData} (Fu : Fun K "_law_words" "_law_words" s__law_words fa fd) (hm : mg "_law_words" = some (.ref fa)) (bi : Binds K fd ["d", "letters", "count", "most"] []) : FnI P w K mg base "_law_words" F__law_words [0] 4 (k + 1) := by
  unfold F__law_words
  exact
  FnI.mk' Fu (fn_rule Fu sc__law_words (b__law_words f__law_word m_range hk) rfl rfl (by decide) (by decide)) hm bi
abbrev s__law_same : Stmt := topS 20
theorem sc__law_same : FnScope ["told", "due", "k"] ["told", "due"] (defScope s__law_same) := ⟨rfl, rfl, rfl, by decide +kernel, rfl, by decide +kernel, by decide +kernel⟩
theorem b__law_same {P : Program} {w : World} {K : PySem.W.Frag} {mg : Str → Option Value} {base : Heap} {k : Nat} {F : EM D} {kr : Nat} (f__law_same : FnI P w K mg base "_law_same" F [] 2 kr) (f__law_is_int : FnI P w K mg base "_law_is_int" F__law_is_int [] 1 1) (m_isinstance : mg "isinstance" = none) (m_tuple : mg "tuple" = none) (m_len : mg "len" = none) (m_range : mg "range" = none) (m_str : mg "str" = none) (hr : kr ≤ k) (hk : 1 ≤ k) (E : XK) : DSs ⟨P, w, K, mg, base, ["told", "due", "k"], defScope s__law_same, fun _ => true, k, E⟩ (defBody s__law_same) [2] [2] (g__law_same F) := by
  have nd : (["told", "due", "k"] : List Str).Nodup := sc__law_same.nd
  have n0 : NmS ⟨P, w, K, mg, base, ["told", "due", "k"], defScope s__law_same, fun _ => true, k, E⟩ 0 "told" := ⟨rfl, .inl rfl, by decide, by decide⟩
  have n1 : NmS ⟨P, w, K, mg, base, ["told", "due", "k"], defScope s__law_same, fun _ => true, k, E⟩ 1 "due" := ⟨rfl, .inl rfl, by decide, by decide⟩
  have n2 : NmS ⟨P, w, K, mg, base, ["told", "due", "k"], defScope s__law_same, fun _ => true, k, E⟩ 2 "k" := ⟨rfl, .inl rfl, by decide, by decide⟩
  have t2 : NmT ⟨P, w, K, mg, base, ["told", "due", "k"], defScope s__law_same, fun _ => true, k, E⟩ 2 "k" := ⟨nd, rfl, .inl rfl, .inl rfl⟩
  exact DSs.monoD (dss_cons (ds_if (dt_tr (de_isi ⟨rfl, m_isinstance⟩ ⟨rfl, m_tuple⟩ (by decide +kernel) (da_cons (de_sl n1) (da_nil)) ⟨fun _ => rfl, fun _ => rfl, trivial⟩) (fun _ _ => rfl)) (dss_cons (ds_if (dt_w (dw_or (dt_not (dt_tr (de_isi ⟨rfl, m_isinstance⟩ ⟨rfl, m_tuple⟩ (by decide +kernel) (da_cons (de_sl n0) (da_nil)) ⟨fun _ => rfl, fun _ => rfl, trivial⟩) (fun _ _ => rfl))) (dw_or1 (dt_cmp co_ne (da_cons (de_len ⟨rfl, m_len⟩ (da_cons (de_sl n0) (da_nil)) ⟨fun _ => rfl, trivial⟩) (da_cons (de_len ⟨rfl, m_len⟩ (da_cons (de_sl n1) (da_nil)) ⟨fun _ => rfl, trivial⟩) (da_nil))) (nomark _))))) (dss_cons (ds_ret (de_bl)) (dss_nil)) (dss_nil)) (dss_cons (ds_for (di_rng1 ⟨rfl, m_range⟩ (da_cons (de_len ⟨rfl, m_len⟩ (da_cons (de_sl n1) (da_nil)) ⟨fun _ => rfl, trivial⟩) (da_nil)) ⟨fun _ => rfl, trivial⟩) (tg_nm t2) (dss_cons (ds_if (dt_not (dt_tr (de_call f__law_same hr rfl (da_cons (de_ix (da_cons (de_sl n0) (da_cons (de_sl n2) (da_nil))) (fun _ _ => rfl)) (da_cons (de_ix (da_cons (de_sl n1) (da_cons (de_sl n2) (da_nil))) (fun _ _ => rfl)) (da_nil))) ⟨fun _ => rfl, fun _ => rfl, trivial⟩ rfl rfl (by decide)) (fun _ _ => rfl))) (dss_cons (ds_ret (de_bl)) (dss_nil)) (dss_nil)) (dss_nil)) (fun _ _ => rfl) (by decide)) (dss_cons (ds_ret (de_bl)) (dss_nil)))) (dss_nil)) (dss_cons (ds_if (dt_tr (de_isi ⟨rfl, m_isinstance⟩ ⟨rfl, m_str⟩ (by decide +kernel) (da_cons (de_sl n1) (da_nil)) ⟨fun _ => rfl, fun _ => rfl, trivial⟩) (fun _ _ => rfl)) (dss_cons (ds_ret (de_andV (de_isi ⟨rfl, m_isinstance⟩ ⟨rfl, m_str⟩ (by decide +kernel) (da_cons (de_sl n0) (da_nil)) ⟨fun _ => rfl, fun _ => rfl, trivial⟩) (de_b1 (de_cmp co_eq (da_cons (de_sl n0) (da_cons (de_sl n1) (da_nil))) (nomark _))))) (dss_nil)) (dss_nil)) (dss_cons (ds_ret (de_andV (de_call f__law_is_int (Nat.le_trans (by decide) hk) rfl (da_cons (de_sl n0) (da_nil)) ⟨fun _ => rfl, trivial⟩ rfl rfl (by decide)) (de_b1 (de_cmp co_eq (da_cons (de_sl n0) (da_cons (de_sl n1) (da_nil))) (nomark _))))) (dss_nil)))) (by decide) (by decide)
theorem i__law_same {P : Program} {w : World} {K : PySem.W.Frag} {mg : Str → Option Value} {base : Heap} {k : Nat} (f__law_is_int : FnI P w K mg base "_law_is_int" F__law_is_int [] 1 1) (m_isinstance : mg "isinstance" = none) (m_tuple : mg "tuple" = none) (m_len : mg "len" = none) (m_range : mg "range" = none) (m_str : mg "str" = none) (hk : 13 ≤ k) {fa : Addr} {fd : FuncData} (Fu : Fun K "_law_same" "_law_same" s__law_same fa fd) (hm : mg "_law_same" = some (.ref fa)) (bi : Binds K fd ["told", "due"] []) : FnI P w K mg base "_law_same" (F__law_same 12) [] 2 (k + 1) := by
  have key : ∀ m : Nat, FnI P w K mg base "_law_same" (recF (fun F => fnD 3 [2] (g__law_same F)) m) [] 2 (1 + 1 + m) := fun m => by
    induction m with
    | zero => exact FnI.zero Fu hm bi rfl
    | succ m ih => exact FnI.mk' Fu (fn_rule (k := 1 + 1 + m) Fu sc__law_same (b__law_same ih f__law_is_int m_isinstance m_tuple m_len m_range m_str (Nat.le_refl _) (by omega)) rfl rfl (by decide) (by decide)) hm bi
  unfold F__law_same
  exact (key 12).mono (by omega)
abbrev s__law_listed : Stmt := topS 21
theorem sc__law_listed : FnScope ["d", "letters", "pool", "count", "left", "words", "k", "word"] ["d", "letters", "pool", "count", "left"] (defScope s__law_listed) := ⟨rfl, rfl, rfl, by decide +kernel, rfl, by decide +kernel, by decide +kernel⟩
theorem b__law_listed {P : Program} {w : World} {K : PySem.W.Frag} {mg : Str → Option Value} {base : Heap} {k : Nat} (f__law_pick : FnI P w K mg base "_law_pick" F__law_pick [0] 2 2) (f__law_draw : FnI P w K mg base "_law_draw" F__law_draw [0] 2 1) (f__law_word : FnI P w K mg base "_law_word" F__law_word [0] 3 5) (m_range : mg "range" = none) (m_len : mg "len" = none) (m_tuple : mg "tuple" = none) (hk : 5 ≤ k) (E : XK) : DSs ⟨P, w, K, mg, base, ["d", "letters", "pool", "count", "left", "words", "k", "word"], defScope s__law_listed, fun _ => true, k, E⟩ (defBody s__law_listed) [0, 4, 5, 6, 7] [4, 5, 6, 7] g__law_listed := by
  have nd : (["d", "letters", "pool", "count", "left", "words", "k", "word"] : List Str).Nodup := sc__law_listed.nd
  have n0 : NmS ⟨P, w, K, mg, base, ["d", "letters", "pool", "count", "left", "words", "k", "word"], defScope s__law_listed, fun _ => true, k, E⟩ 0 "d" := ⟨rfl, .inl rfl, by decide, by decide⟩
  have n1 : NmS ⟨P, w, K, mg, base, ["d", "letters", "pool", "count", "left", "words", "k", "word"], defScope s__law_listed, fun _ => true, k, E⟩ 1 "letters" := ⟨rfl, .inl rfl, by decide, by decide⟩
  have n2 : NmS ⟨P, w, K, mg, base, ["d", "letters", "pool", "count", "left", "words", "k", "word"], defScope s__law_listed, fun _ => true, k, E⟩ 2 "pool" := ⟨rfl, .inl rfl, by decide, by decide⟩
  have n3 : NmS ⟨P, w, K, mg, base, ["d", "letters", "pool", "count", "left", "words", "k", "word"], defScope s__law_listed, fun _ => true, k, E⟩ 3 "count" := ⟨rfl, .inl rfl, by decide, by decide⟩
  have n4 : NmS ⟨P, w, K, mg, base, ["d", "letters", "pool", "count", "left", "words", "k", "word"], defScope s__law_listed, fun _ => true, k, E⟩ 4 "left" := ⟨rfl, .inl rfl, by decide, by decide⟩
  have t4 : NmT ⟨P, w, K, mg, base, ["d", "letters", "pool", "count", "left", "words", "k", "word"], defScope s__law_listed, fun _ => true, k, E⟩ 4 "left" := ⟨nd, rfl, .inl rfl, .inl rfl⟩
  have n5 : NmS ⟨P, w, K, mg, base, ["d", "letters", "pool", "count", "left", "words", "k", "word"], defScope s__law_listed, fun _ => true, k, E⟩ 5 "words" := ⟨rfl, .inl rfl, by decide, by decide⟩
  have t5 : NmT ⟨P, w, K, mg, base, ["d", "letters", "pool", "count", "left", "words", "k", "word"], defScope s__law_listed, fun _ => true, k, E⟩ 5 "words" := ⟨nd, rfl, .inl rfl, .inl rfl⟩
  have n6 : NmS ⟨P, w, K, mg, base, ["d", "letters", "pool", "count", "left", "words", "k", "word"], defScope s__law_listed, fun _ => true, k, E⟩ 6 "k" := ⟨rfl, .inl rfl, by decide, by decide⟩
  have t6 : NmT ⟨P, w, K, mg, base, ["d", "letters", "pool", "count", "left", "words", "k", "word"], defScope s__law_listed, fun _ => true, k, E⟩ 6 "k" := ⟨nd, rfl, .inl rfl, .inl rfl⟩
  have n7 : NmS ⟨P, w, K, mg, base, ["d", "letters", "pool", "count", "left", "words", "k", "word"], defScope s__law_listed, fun _ => true, k, E⟩ 7 "word" := ⟨rfl, .inl rfl, by decide, by decide⟩
  have t7 : NmT ⟨P, w, K, mg, base, ["d", "letters", "pool", "count", "left", "words", "k", "word"], defScope s__law_listed, fun _ => true, k, E⟩ 7 "word" := ⟨nd, rfl, .inl rfl, .inl rfl⟩
  exact DSs.monoD (dss_cons (ds_asg t5 (de_lst (da_nil) rfl trivial) (fun _ => rfl)) (dss_cons (ds_for (di_rng1 ⟨rfl, m_range⟩ (da_cons (de_sl n3) (da_nil)) ⟨fun _ => rfl, trivial⟩) (tg_nm t6) (dss_cons (ds_asg t7 (de_call f__law_pick (Nat.le_trans (by decide) hk) rfl (da_cons (de_sl n0) (da_cons (de_sl n2) (da_nil))) ⟨fun _ => rfl, fun _ => rfl, trivial⟩ rfl rfl (by decide)) (fun _ => rfl)) (dss_cons (ds_if (dt_cmp co_eq (da_cons (de_call f__law_draw (Nat.le_trans (by decide) hk) rfl (da_cons (de_sl n0) (da_cons (de_int) (da_nil))) ⟨fun _ => rfl, fun _ => rfl, trivial⟩ rfl rfl (by decide)) (da_cons (de_int) (da_nil))) (nomark _)) (dss_cons (ds_asg t7 (de_call f__law_word (Nat.le_trans (by decide) hk) rfl (da_cons (de_sl n0) (da_cons (de_sl n1) (da_cons (de_int) (da_nil)))) ⟨fun _ => rfl, fun _ => rfl, fun _ => rfl, trivial⟩ rfl rfl (by decide)) (fun _ => rfl)) (dss_nil)) (dss_nil)) (dss_cons (ds_if (dt_w (dw_and (dt_cmp co_nin (da_cons (de_sl n7) (da_cons (de_sl n5) (da_nil))) (by rfl)) (dw_and1 (dt_cmp co_le (da_cons (de_len ⟨rfl, m_len⟩ (da_cons (de_ix (da_cons (de_sl n7) (da_cons (de_int) (da_nil))) (fun _ _ => rfl)) (da_nil)) ⟨fun _ => rfl, trivial⟩) (da_cons (de_sl n4) (da_nil))) (nomark _))))) (dss_cons (ds_asg t4 (de_sub (da_cons (de_sl n4) (da_cons (de_len ⟨rfl, m_len⟩ (da_cons (de_ix (da_cons (de_sl n7) (da_cons (de_int) (da_nil))) (fun _ _ => rfl)) (da_nil)) ⟨fun _ => rfl, trivial⟩) (da_nil)))) (fun _ => rfl)) (dss_cons (ds_app n5 (de_imm (de_sl n7)) ⟨fun _ => rfl, trivial⟩ (fun _ => rfl) rfl (fun _ => rfl) (fun _ => rfl)) (dss_nil))) (dss_nil)) (dss_nil)))) (fun _ _ => rfl) (by decide)) (dss_cons (ds_ret (de_tupleC ⟨rfl, m_tuple⟩ (da_cons (de_sl n5) (da_nil)) ⟨fun _ => rfl, trivial⟩)) (dss_nil)))) (by decide) (by decide)
theorem i__law_listed {P : Program} {w : World} {K : PySem.W.Frag} {mg : Str → Option Value} {base : Heap} {k : Nat} (f__law_pick : FnI P w K mg base "_law_pick" F__law_pick [0] 2 2) (f__law_draw : FnI P w K mg base "_law_draw" F__law_draw [0] 2 1) (f__law_word : FnI P w K mg base "_law_word" F__law_word [0] 3 5) (m_range : mg "range" = none) (m_len : mg "len" = none) (m_tuple : mg "tuple" = none) (hk : 5 ≤ k) {fa : Addr} {fd : FuncData} (Fu : Fun K "_law_listed" "_law_listed" s__law_listed fa fd) (hm : mg "_law_listed" = some (.ref fa)) (bi : Binds K fd ["d", "letters", "pool", "count", "left"] []) : FnI P w K mg base "_law_listed" F__law_listed [0] 5 (k + 1) := by
  unfold F__law_listed
  exact
  FnI.mk' Fu (fn_rule Fu sc__law_listed (b__law_listed f__law_pick f__law_draw f__law_word m_range m_len m_tuple hk) rfl rfl (by decide) (by decide)) hm bi
abbrev s__law_broad : Stmt := topS 22
theorem sc__law_broad : FnScope ["d", "letters", "pool", "left", "bars", "names", "name", "chain", "closing", "word"] ["d"] (defScope s__law_broad) := ⟨rfl, rfl, rfl, by decide +kernel, rfl, by decide +kernel, by decide +kernel⟩
theorem b__law_broad {P : Program} {w : World} {K : PySem.W.Frag} {mg : Str → Option Value} {base : Heap} {k : Nat} (f__law_letters : FnI P w K mg base "_law_letters" F__law_letters [0] 2 3) (f__law_rare : FnI P w K mg base "_law_rare" F__law_rare [0] 2 2) (f__law_words : FnI P w K mg base "_law_words" F__law_words [0] 4 6) (f__law_shuffled : FnI P w K mg base "_law_shuffled" F__law_shuffled [0] 2 2) (f__law_draw : FnI P w K mg base "_law_draw" F__law_draw [0] 2 1) (f__law_listed : FnI P w K mg base "_law_listed" F__law_listed [0] 5 6) (f__law_pick : FnI P w K mg base "_law_pick" F__law_pick [0] 2 2) (m_len : mg "len" = none) (m_sum : mg "sum" = none) (m_tuple : mg "tuple" = none) (hk : 6 ≤ k) (E : XK) : DSs ⟨P, w, K, mg, base, ["d", "letters", "pool", "left", "bars", "names", "name", "chain", "closing", "word"], defScope s__law_broad, fun _ => true, k, E⟩ (defBody s__law_broad) [0, 1, 2, 3, 4, 5, 6, 7, 8] [1, 2, 3, 4, 5, 6, 7, 8] g__law_broad := by
  have nd : (["d", "letters", "pool", "left", "bars", "names", "name", "chain", "closing", "word"] : List Str).Nodup := sc__law_broad.nd
  have n0 : NmS ⟨P, w, K, mg, base, ["d", "letters", "pool", "left", "bars", "names", "name", "chain", "closing", "word"], defScope s__law_broad, fun _ => true, k, E⟩ 0 "d" := ⟨rfl, .inl rfl, by decide, by decide⟩
  have n1 : NmS ⟨P, w, K, mg, base, ["d", "letters", "pool", "left", "bars", "names", "name", "chain", "closing", "word"], defScope s__law_broad, fun _ => true, k, E⟩ 1 "letters" := ⟨rfl, .inl rfl, by decide, by decide⟩
  have t1 : NmT ⟨P, w, K, mg, base, ["d", "letters", "pool", "left", "bars", "names", "name", "chain", "closing", "word"], defScope s__law_broad, fun _ => true, k, E⟩ 1 "letters" := ⟨nd, rfl, .inl rfl, .inl rfl⟩
  have n2 : NmS ⟨P, w, K, mg, base, ["d", "letters", "pool", "left", "bars", "names", "name", "chain", "closing", "word"], defScope s__law_broad, fun _ => true, k, E⟩ 2 "pool" := ⟨rfl, .inl rfl, by decide, by decide⟩
  have t2 : NmT ⟨P, w, K, mg, base, ["d", "letters", "pool", "left", "bars", "names", "name", "chain", "closing", "word"], defScope s__law_broad, fun _ => true, k, E⟩ 2 "pool" := ⟨nd, rfl, .inl rfl, .inl rfl⟩
  have n3 : NmS ⟨P, w, K, mg, base, ["d", "letters", "pool", "left", "bars", "names", "name", "chain", "closing", "word"], defScope s__law_broad, fun _ => true, k, E⟩ 3 "left" := ⟨rfl, .inl rfl, by decide, by decide⟩
  have t3 : NmT ⟨P, w, K, mg, base, ["d", "letters", "pool", "left", "bars", "names", "name", "chain", "closing", "word"], defScope s__law_broad, fun _ => true, k, E⟩ 3 "left" := ⟨nd, rfl, .inl rfl, .inl rfl⟩
  have n4 : NmS ⟨P, w, K, mg, base, ["d", "letters", "pool", "left", "bars", "names", "name", "chain", "closing", "word"], defScope s__law_broad, fun _ => true, k, E⟩ 4 "bars" := ⟨rfl, .inl rfl, by decide, by decide⟩
  have t4 : NmT ⟨P, w, K, mg, base, ["d", "letters", "pool", "left", "bars", "names", "name", "chain", "closing", "word"], defScope s__law_broad, fun _ => true, k, E⟩ 4 "bars" := ⟨nd, rfl, .inl rfl, .inl rfl⟩
  have n5 : NmS ⟨P, w, K, mg, base, ["d", "letters", "pool", "left", "bars", "names", "name", "chain", "closing", "word"], defScope s__law_broad, fun _ => true, k, E⟩ 5 "names" := ⟨rfl, .inl rfl, by decide, by decide⟩
  have t5 : NmT ⟨P, w, K, mg, base, ["d", "letters", "pool", "left", "bars", "names", "name", "chain", "closing", "word"], defScope s__law_broad, fun _ => true, k, E⟩ 5 "names" := ⟨nd, rfl, .inl rfl, .inl rfl⟩
  have n6 : NmS ⟨P, w, K, mg, base, ["d", "letters", "pool", "left", "bars", "names", "name", "chain", "closing", "word"], defScope s__law_broad, fun _ => true, k, E⟩ 6 "name" := ⟨rfl, .inl rfl, by decide, by decide⟩
  have t6 : NmT ⟨P, w, K, mg, base, ["d", "letters", "pool", "left", "bars", "names", "name", "chain", "closing", "word"], defScope s__law_broad, fun _ => true, k, E⟩ 6 "name" := ⟨nd, rfl, .inl rfl, .inl rfl⟩
  have n7 : NmS ⟨P, w, K, mg, base, ["d", "letters", "pool", "left", "bars", "names", "name", "chain", "closing", "word"], defScope s__law_broad, fun _ => true, k, E⟩ 7 "chain" := ⟨rfl, .inl rfl, by decide, by decide⟩
  have t7 : NmT ⟨P, w, K, mg, base, ["d", "letters", "pool", "left", "bars", "names", "name", "chain", "closing", "word"], defScope s__law_broad, fun _ => true, k, E⟩ 7 "chain" := ⟨nd, rfl, .inl rfl, .inl rfl⟩
  have n8 : NmS ⟨P, w, K, mg, base, ["d", "letters", "pool", "left", "bars", "names", "name", "chain", "closing", "word"], defScope s__law_broad, fun _ => true, k, E⟩ 8 "closing" := ⟨rfl, .inl rfl, by decide, by decide⟩
  have t8 : NmT ⟨P, w, K, mg, base, ["d", "letters", "pool", "left", "bars", "names", "name", "chain", "closing", "word"], defScope s__law_broad, fun _ => true, k, E⟩ 8 "closing" := ⟨nd, rfl, .inl rfl, .inl rfl⟩
  exact DSs.monoD (dss_cons (ds_asg t1 (de_call f__law_letters (Nat.le_trans (by decide) hk) rfl (da_cons (de_sl n0) (da_cons (de_int) (da_nil))) ⟨fun _ => rfl, fun _ => rfl, trivial⟩ rfl rfl (by decide)) (fun _ => rfl)) (dss_cons (ds_if (dt_tr (de_call f__law_rare (Nat.le_trans (by decide) hk) rfl (da_cons (de_sl n0) (da_cons (de_int) (da_nil))) ⟨fun _ => rfl, fun _ => rfl, trivial⟩ rfl rfl (by decide)) (fun _ _ => rfl)) (dss_cons (ds_asg t1 (de_sl01 (da_cons (de_sl n1) (da_cons (de_int) (da_nil)))) (fun _ => rfl)) (dss_nil)) (dss_nil)) (dss_cons (ds_asg t2 (de_call f__law_words (Nat.le_trans (by decide) hk) rfl (da_cons (de_sl n0) (da_cons (de_imm (de_sl n1)) (da_cons (de_int) (da_cons (de_int) (da_nil))))) ⟨fun _ => rfl, fun _ => rfl, fun _ => rfl, fun _ => rfl, trivial⟩ rfl rfl (by decide)) (fun _ => rfl)) (dss_cons (ds_asg t3 (de_int) (fun _ => rfl)) (dss_cons (ds_asg t4 (de_lst (da_nil) rfl trivial) (fun _ => rfl)) (dss_cons (ds_asg t5 (de_call f__law_shuffled (Nat.le_trans (by decide) hk) rfl (da_cons (de_sl n0) (da_cons (de_lst (da_cons (de_str) (da_cons (de_str) (da_cons (de_str) (da_cons (de_str) (da_nil))))) rfl ⟨fun _ => rfl, fun _ => rfl, fun _ => rfl, fun _ => rfl, trivial⟩) (da_nil))) ⟨fun _ => rfl, fun _ => rfl, trivial⟩ rfl rfl (by decide)) (fun _ => rfl)) (dss_cons (ds_for (di_seq (de_sl01 (da_cons (de_sl n5) (da_cons (de_call f__law_draw (Nat.le_trans (by decide) hk) rfl (da_cons (de_sl n0) (da_cons (de_int) (da_nil))) ⟨fun _ => rfl, fun _ => rfl, trivial⟩ rfl rfl (by decide)) (da_nil))))) (tg_nm t6) (dss_cons (ds_asg t7 (de_call f__law_listed (Nat.le_trans (by decide) hk) rfl (da_cons (de_sl n0) (da_cons (de_imm (de_sl n1)) (da_cons (de_sl n2) (da_cons (de_call f__law_draw (Nat.le_trans (by decide) hk) rfl (da_cons (de_sl n0) (da_cons (de_int) (da_nil))) ⟨fun _ => rfl, fun _ => rfl, trivial⟩ rfl rfl (by decide)) (da_cons (de_imm (de_sl n3)) (da_nil)))))) ⟨fun _ => rfl, fun _ => rfl, fun _ => rfl, fun _ => rfl, fun _ => rfl, trivial⟩ rfl rfl (by decide)) (fun _ => rfl)) (dss_cons (ds_asg t3 (de_sub (da_cons (de_sl n3) (da_cons (de_sum ⟨rfl, m_sum⟩ (da_cons (de_comp nd (own := [("word", 9)]) (di_seq (de_sl n7)) (blkOk_by (by show blkC ["d", "letters", "pool", "left", "bars", "names", "name", "chain", "closing", "word"] (defScope s__law_broad) _ _ = true; decide +kernel)) (fun _ _ => rfl) (tg_nm ⟨nd, rfl, .inl rfl, .inr rfl⟩) (by decide) (dts_nil) (de_len ⟨rfl, m_len⟩ (da_cons (de_ix (da_cons (de_sl (⟨rfl, .inl rfl, by decide, by decide⟩ : NmS _ 9 "word")) (da_cons (de_int) (da_nil))) (fun _ _ => rfl)) (da_nil)) ⟨fun _ => rfl, trivial⟩) (by decide)) (da_nil)) ⟨fun _ => rfl, trivial⟩) (da_nil)))) (fun _ => rfl)) (dss_cons (ds_asg t8 (de_tup (da_nil) rfl trivial) (fun _ => rfl)) (dss_cons (ds_if (dt_w (dw_or (dt_cmp co_eq (da_cons (de_len ⟨rfl, m_len⟩ (da_cons (de_sl n7) (da_nil)) ⟨fun _ => rfl, trivial⟩) (da_cons (de_int) (da_nil))) (nomark _)) (dw_or1 (dt_cmp co_eq (da_cons (de_call f__law_draw (Nat.le_trans (by decide) hk) rfl (da_cons (de_sl n0) (da_cons (de_int) (da_nil))) ⟨fun _ => rfl, fun _ => rfl, trivial⟩ rfl rfl (by decide)) (da_cons (de_int) (da_nil))) (nomark _))))) (dss_cons (ds_asg t8 (de_call f__law_listed (Nat.le_trans (by decide) hk) rfl (da_cons (de_sl n0) (da_cons (de_imm (de_sl n1)) (da_cons (de_sl n2) (da_cons (de_add (da_cons (de_int) (da_cons (de_call f__law_draw (Nat.le_trans (by decide) hk) rfl (da_cons (de_sl n0) (da_cons (de_int) (da_nil))) ⟨fun _ => rfl, fun _ => rfl, trivial⟩ rfl rfl (by decide)) (da_nil)))) (da_cons (de_imm (de_sl n3)) (da_nil)))))) ⟨fun _ => rfl, fun _ => rfl, fun _ => rfl, fun _ => rfl, fun _ => rfl, trivial⟩ rfl rfl (by decide)) (fun _ => rfl)) (dss_cons (ds_asg t3 (de_sub (da_cons (de_sl n3) (da_cons (de_sum ⟨rfl, m_sum⟩ (da_cons (de_comp nd (own := [("word", 9)]) (di_seq (de_sl n8)) (blkOk_by (by show blkC ["d", "letters", "pool", "left", "bars", "names", "name", "chain", "closing", "word"] (defScope s__law_broad) _ _ = true; decide +kernel)) (fun _ _ => rfl) (tg_nm ⟨nd, rfl, .inl rfl, .inr rfl⟩) (by decide) (dts_nil) (de_len ⟨rfl, m_len⟩ (da_cons (de_ix (da_cons (de_sl (⟨rfl, .inl rfl, by decide, by decide⟩ : NmS _ 9 "word")) (da_cons (de_int) (da_nil))) (fun _ _ => rfl)) (da_nil)) ⟨fun _ => rfl, trivial⟩) (by decide)) (da_nil)) ⟨fun _ => rfl, trivial⟩) (da_nil)))) (fun _ => rfl)) (dss_nil))) (dss_nil)) (dss_cons (ds_if (dt_cmp co_gt (da_cons (de_len ⟨rfl, m_len⟩ (da_cons (de_sl n8) (da_nil)) ⟨fun _ => rfl, trivial⟩) (da_cons (de_int) (da_nil))) (nomark _)) (dss_cons (ds_app n4 (de_tup (da_cons (de_imm (de_sl n6)) (da_cons (de_str) (da_cons (de_imm (de_sl n7)) (da_cons (de_imm (de_sl n8)) (da_nil))))) rfl ⟨fun _ => rfl, fun _ => rfl, fun _ => rfl, fun _ => rfl, trivial⟩) ⟨fun _ => rfl, trivial⟩ (fun _ => rfl) rfl (fun _ => rfl) (fun _ => rfl)) (dss_nil)) (dss_cons (ds_if (dt_cmp co_gt (da_cons (de_len ⟨rfl, m_len⟩ (da_cons (de_sl n7) (da_nil)) ⟨fun _ => rfl, trivial⟩) (da_cons (de_int) (da_nil))) (nomark _)) (dss_cons (ds_app n4 (de_tup (da_cons (de_imm (de_sl n6)) (da_cons (de_str) (da_cons (de_imm (de_sl n7)) (da_cons (de_tup (da_nil) rfl trivial) (da_nil))))) rfl ⟨fun _ => rfl, fun _ => rfl, fun _ => rfl, fun _ => rfl, trivial⟩) ⟨fun _ => rfl, trivial⟩ (fun _ => rfl) rfl (fun _ => rfl) (fun _ => rfl)) (dss_nil)) (dss_nil)) (dss_nil))) (dss_nil)))))) (fun _ _ => rfl) (by decide)) (dss_cons (ds_ret (de_tup (da_cons (de_call f__law_pick (Nat.le_trans (by decide) hk) rfl (da_cons (de_sl n0) (da_cons (de_lst (da_cons (de_str) (da_cons (de_str) (da_cons (de_str) (da_nil)))) rfl ⟨fun _ => rfl, fun _ => rfl, fun _ => rfl, trivial⟩) (da_nil))) ⟨fun _ => rfl, fun _ => rfl, trivial⟩ rfl rfl (by decide)) (da_cons (de_imm (de_sl n1)) (da_cons (de_tupleC ⟨rfl, m_tuple⟩ (da_cons (de_sl n4) (da_nil)) ⟨fun _ => rfl, trivial⟩) (da_nil)))) rfl ⟨fun _ => rfl, fun _ => rfl, fun _ => rfl, trivial⟩)) (dss_nil))))))))) (by decide) (by decide)
theorem i__law_broad {P : Program} {w : World} {K : PySem.W.Frag} {mg : Str → Option Value} {base : Heap} {k : Nat} (f__law_letters : FnI P w K mg base "_law_letters" F__law_letters [0] 2 3) (f__law_rare : FnI P w K mg base "_law_rare" F__law_rare [0] 2 2) (f__law_words : FnI P w K mg base "_law_words" F__law_words [0] 4 6) (f__law_shuffled : FnI P w K mg base "_law_shuffled" F__law_shuffled [0] 2 2) (f__law_draw : FnI P w K mg base "_law_draw" F__law_draw [0] 2 1) (f__law_listed : FnI P w K mg base "_law_listed" F__law_listed [0] 5 6) (f__law_pick : FnI P w K mg base "_law_pick" F__law_pick [0] 2 2) (m_len : mg "len" = none) (m_sum : mg "sum" = none) (m_tuple : mg "tuple" = none) (hk : 6 ≤ k) {fa : Addr} {fd : FuncData} (Fu : Fun K "_law_broad" "_law_broad" s__law_broad fa fd) (hm : mg "_law_broad" = some (.ref fa)) (bi : Binds K fd ["d"] []) : FnI P w K mg base "_law_broad" F__law_broad [0] 1 (k + 1) := by
  unfold F__law_broad
  exact
  FnI.mk' Fu (fn_rule Fu sc__law_broad (b__law_broad f__law_letters f__law_rare f__law_words f__law_shuffled f__law_draw f__law_listed f__law_pick m_len m_sum m_tuple hk) rfl rfl (by decide) (by decide)) hm bi
abbrev s__law_named : Stmt := topS 23
theorem sc__law_named : FnScope ["machine", "found", "number", "part", "index"] ["machine"] (defScope s__law_named) := ⟨rfl, rfl, rfl, by decide +kernel, rfl, by decide +kernel, by decide +kernel⟩
theorem b__law_named {P : Program} {w : World} {K : PySem.W.Frag} {mg : Str → Option Value} {base : Heap} {k : Nat} (m_len : mg "len" = none) (m_range : mg "range" = none) (hk : 0 ≤ k) (E : XK) : DSs ⟨P, w, K, mg, base, ["machine", "found", "number", "part", "index"], defScope s__law_named, fun _ => true, k, E⟩ (defBody s__law_named) [1, 2, 3, 4] [1, 2, 3, 4] g__law_named := by
  have nd : (["machine", "found", "number", "part", "index"] : List Str).Nodup := sc__law_named.nd
  have n0 : NmS ⟨P, w, K, mg, base, ["machine", "found", "number", "part", "index"], defScope s__law_named, fun _ => true, k, E⟩ 0 "machine" := ⟨rfl, .inl rfl, by decide, by decide⟩
  have n1 : NmS ⟨P, w, K, mg, base, ["machine", "found", "number", "part", "index"], defScope s__law_named, fun _ => true, k, E⟩ 1 "found" := ⟨rfl, .inl rfl, by decide, by decide⟩
  have t1 : NmT ⟨P, w, K, mg, base, ["machine", "found", "number", "part", "index"], defScope s__law_named, fun _ => true, k, E⟩ 1 "found" := ⟨nd, rfl, .inl rfl, .inl rfl⟩
  have n2 : NmS ⟨P, w, K, mg, base, ["machine", "found", "number", "part", "index"], defScope s__law_named, fun _ => true, k, E⟩ 2 "number" := ⟨rfl, .inl rfl, by decide, by decide⟩
  have t2 : NmT ⟨P, w, K, mg, base, ["machine", "found", "number", "part", "index"], defScope s__law_named, fun _ => true, k, E⟩ 2 "number" := ⟨nd, rfl, .inl rfl, .inl rfl⟩
  have n3 : NmS ⟨P, w, K, mg, base, ["machine", "found", "number", "part", "index"], defScope s__law_named, fun _ => true, k, E⟩ 3 "part" := ⟨rfl, .inl rfl, by decide, by decide⟩
  have t3 : NmT ⟨P, w, K, mg, base, ["machine", "found", "number", "part", "index"], defScope s__law_named, fun _ => true, k, E⟩ 3 "part" := ⟨nd, rfl, .inl rfl, .inl rfl⟩
  have n4 : NmS ⟨P, w, K, mg, base, ["machine", "found", "number", "part", "index"], defScope s__law_named, fun _ => true, k, E⟩ 4 "index" := ⟨rfl, .inl rfl, by decide, by decide⟩
  have t4 : NmT ⟨P, w, K, mg, base, ["machine", "found", "number", "part", "index"], defScope s__law_named, fun _ => true, k, E⟩ 4 "index" := ⟨nd, rfl, .inl rfl, .inl rfl⟩
  exact DSs.monoD (dss_cons (ds_asg t1 (de_lst (da_nil) rfl trivial) (fun _ => rfl)) (dss_cons (ds_for (di_rng1 ⟨rfl, m_range⟩ (da_cons (de_len ⟨rfl, m_len⟩ (da_cons (de_ix (da_cons (de_sl n0) (da_cons (de_int) (da_nil))) (fun _ _ => rfl)) (da_nil)) ⟨fun _ => rfl, trivial⟩) (da_nil)) ⟨fun _ => rfl, trivial⟩) (tg_nm t2) (dss_cons (ds_for (di_seq (de_lst (da_cons (de_int) (da_cons (de_int) (da_nil))) rfl ⟨fun _ => rfl, fun _ => rfl, trivial⟩)) (tg_nm t3) (dss_cons (ds_for (di_rng1 ⟨rfl, m_range⟩ (da_cons (de_len ⟨rfl, m_len⟩ (da_cons (de_ix (da_cons (de_ix (da_cons (de_ix (da_cons (de_sl n0) (da_cons (de_int) (da_nil))) (fun _ _ => rfl)) (da_cons (de_sl n2) (da_nil))) (fun _ _ => rfl)) (da_cons (de_add (da_cons (de_int) (da_cons (de_sl n3) (da_nil)))) (da_nil))) (fun _ _ => rfl)) (da_nil)) ⟨fun _ => rfl, trivial⟩) (da_nil)) ⟨fun _ => rfl, trivial⟩) (tg_nm t4) (dss_cons (ds_app n1 (de_tup (da_cons (de_imm (de_sl n2)) (da_cons (de_imm (de_sl n3)) (da_cons (de_imm (de_sl n4)) (da_nil)))) rfl ⟨fun _ => rfl, fun _ => rfl, fun _ => rfl, trivial⟩) ⟨fun _ => rfl, trivial⟩ (fun _ => rfl) rfl (fun _ => rfl) (fun _ => rfl)) (dss_nil)) (fun _ _ => rfl) (by decide)) (dss_nil)) (fun _ _ => rfl) (by decide)) (dss_nil)) (fun _ _ => rfl) (by decide)) (dss_cons (ds_ret (de_mv n1)) (dss_nil)))) (by decide) (by decide)
theorem i__law_named {P : Program} {w : World} {K : PySem.W.Frag} {mg : Str → Option Value} {base : Heap} {k : Nat} (m_len : mg "len" = none) (m_range : mg "range" = none) (hk : 0 ≤ k) {fa : Addr} {fd : FuncData} (Fu : Fun K "_law_named" "_law_named" s__law_named fa fd) (hm : mg "_law_named" = some (.ref fa)) (bi : Binds K fd ["machine"] []) : FnI P w K mg base "_law_named" F__law_named [] 1 (k + 1) := by
  unfold F__law_named
  exact
  FnI.mk' Fu (fn_rule Fu sc__law_named (b__law_named m_len m_range hk) rfl rfl (by decide) (by decide)) hm bi
abbrev s__law_unnamed : Stmt := topS 24
theorem sc__law_unnamed : FnScope ["machine", "number", "part", "gone", "words", "index"] ["machine", "number", "part", "gone"] (defScope s__law_unnamed) := ⟨rfl, rfl, rfl, by decide +kernel, rfl, by decide +kernel, by decide +kernel⟩
theorem b__law_unnamed {P : Program} {w : World} {K : PySem.W.Frag} {mg : Str → Option Value} {base : Heap} {k : Nat} (m_len : mg "len" = none) (m_range : mg "range" = none) (hk : 0 ≤ k) (E : XK) : DSs ⟨P, w, K, mg, base, ["machine", "number", "part", "gone", "words", "index"], defScope s__law_unnamed, fun _ => true, k, E⟩ (defBody s__law_unnamed) [4] [4] g__law_unnamed := by
  have nd : (["machine", "number", "part", "gone", "words", "index"] : List Str).Nodup := sc__law_unnamed.nd
  have n0 : NmS ⟨P, w, K, mg, base, ["machine", "number", "part", "gone", "words", "index"], defScope s__law_unnamed, fun _ => true, k, E⟩ 0 "machine" := ⟨rfl, .inl rfl, by decide, by decide⟩
  have n1 : NmS ⟨P, w, K, mg, base, ["machine", "number", "part", "gone", "words", "index"], defScope s__law_unnamed, fun _ => true, k, E⟩ 1 "number" := ⟨rfl, .inr (.inl rfl), by decide, by decide⟩
  have n2 : NmS ⟨P, w, K, mg, base, ["machine", "number", "part", "gone", "words", "index"], defScope s__law_unnamed, fun _ => true, k, E⟩ 2 "part" := ⟨rfl, .inr (.inl rfl), by decide, by decide⟩
  have n3 : NmS ⟨P, w, K, mg, base, ["machine", "number", "part", "gone", "words", "index"], defScope s__law_unnamed, fun _ => true, k, E⟩ 3 "gone" := ⟨rfl, .inr (.inl rfl), by decide, by decide⟩
  have n4 : NmS ⟨P, w, K, mg, base, ["machine", "number", "part", "gone", "words", "index"], defScope s__law_unnamed, fun _ => true, k, E⟩ 4 "words" := ⟨rfl, .inr (.inl rfl), by decide, by decide⟩
  have t4 : NmT ⟨P, w, K, mg, base, ["machine", "number", "part", "gone", "words", "index"], defScope s__law_unnamed, fun _ => true, k, E⟩ 4 "words" := ⟨nd, rfl, .inr rfl, .inl rfl⟩
  exact DSs.monoD (dss_cons (ds_asg t4 (de_ix (da_cons (de_ix (da_cons (de_ix (da_cons (de_sl n0) (da_cons (de_int) (da_nil))) (fun _ _ => rfl)) (da_cons (de_sl n1) (da_nil))) (fun _ _ => rfl)) (da_cons (de_add (da_cons (de_int) (da_cons (de_sl n2) (da_nil)))) (da_nil))) (fun _ _ => rfl)) (fun _ => rfl)) (dss_cons (ds_ret (de_comp nd (own := [("index", 5)]) (di_rng1 ⟨rfl, m_range⟩ (da_cons (de_len ⟨rfl, m_len⟩ (da_cons (de_sl n4) (da_nil)) ⟨fun _ => rfl, trivial⟩) (da_nil)) ⟨fun _ => rfl, trivial⟩) (blkOk_by (by show blkC ["machine", "number", "part", "gone", "words", "index"] (defScope s__law_unnamed) _ _ = true; decide +kernel)) (fun _ _ => rfl) (tg_nm ⟨nd, rfl, .inl rfl, .inr rfl⟩) (by decide) (dts_one (dt_cmp co_nin (da_cons (de_tup (da_cons (de_imm (de_sl (⟨rfl, (by first | exact .inr (.inl rfl) | exact .inr (.inr rfl)), by decide, by decide⟩ : NmS _ 1 "number"))) (da_cons (de_imm (de_sl (⟨rfl, (by first | exact .inr (.inl rfl) | exact .inr (.inr rfl)), by decide, by decide⟩ : NmS _ 2 "part"))) (da_cons (de_imm (de_sl (⟨rfl, .inl rfl, by decide, by decide⟩ : NmS _ 5 "index"))) (da_nil)))) rfl ⟨fun _ => rfl, fun _ => rfl, fun _ => rfl, trivial⟩) (da_cons (de_sl (⟨rfl, (by first | exact .inr (.inl rfl) | exact .inr (.inr rfl)), by decide, by decide⟩ : NmS _ 3 "gone")) (da_nil))) (by rfl))) (de_ix (da_cons (de_sl (⟨rfl, (by first | exact .inr (.inl rfl) | exact .inr (.inr rfl)), by decide, by decide⟩ : NmS _ 4 "words")) (da_cons (de_sl (⟨rfl, .inl rfl, by decide, by decide⟩ : NmS _ 5 "index")) (da_nil))) (fun _ _ => rfl)) (by decide))) (dss_nil))) (by decide) (by decide)
theorem i__law_unnamed {P : Program} {w : World} {K : PySem.W.Frag} {mg : Str → Option Value} {base : Heap} {k : Nat} (m_len : mg "len" = none) (m_range : mg "range" = none) (hk : 0 ≤ k) {fa : Addr} {fd : FuncData} (Fu : Fun K "_law_unnamed" "_law_unnamed" s__law_unnamed fa fd) (hm : mg "_law_unnamed" = some (.ref fa)) (bi : Binds K fd ["machine", "number", "part", "gone"] []) : FnI P w K mg base "_law_unnamed" F__law_unnamed [] 4 (k + 1) := by
  unfold F__law_unnamed
  exact
  FnI.mk' Fu (fn_rule Fu sc__law_unnamed (b__law_unnamed m_len m_range hk) rfl rfl (by decide) (by decide)) hm bi
abbrev s__law_stays : Stmt := topS 25
theorem sc__law_stays : FnScope ["machine", "number", "gone", "part"] ["machine", "number", "gone"] (defScope s__law_stays) := ⟨rfl, rfl, rfl, by decide +kernel, rfl, by decide +kernel, by decide +kernel⟩
theorem b__law_stays {P : Program} {w : World} {K : PySem.W.Frag} {mg : Str → Option Value} {base : Heap} {k : Nat} (f__law_unnamed : FnI P w K mg base "_law_unnamed" F__law_unnamed [] 4 1) (m_len : mg "len" = none) (hk : 1 ≤ k) (E : XK) : DSs ⟨P, w, K, mg, base, ["machine", "number", "gone", "part"], defScope s__law_stays, fun _ => true, k, E⟩ (defBody s__law_stays) [3] [3] g__law_stays := by
  have nd : (["machine", "number", "gone", "part"] : List Str).Nodup := sc__law_stays.nd
  have n0 : NmS ⟨P, w, K, mg, base, ["machine", "number", "gone", "part"], defScope s__law_stays, fun _ => true, k, E⟩ 0 "machine" := ⟨rfl, .inl rfl, by decide, by decide⟩
  have n1 : NmS ⟨P, w, K, mg, base, ["machine", "number", "gone", "part"], defScope s__law_stays, fun _ => true, k, E⟩ 1 "number" := ⟨rfl, .inl rfl, by decide, by decide⟩
  have n2 : NmS ⟨P, w, K, mg, base, ["machine", "number", "gone", "part"], defScope s__law_stays, fun _ => true, k, E⟩ 2 "gone" := ⟨rfl, .inl rfl, by decide, by decide⟩
  have n3 : NmS ⟨P, w, K, mg, base, ["machine", "number", "gone", "part"], defScope s__law_stays, fun _ => true, k, E⟩ 3 "part" := ⟨rfl, .inl rfl, by decide, by decide⟩
  have t3 : NmT ⟨P, w, K, mg, base, ["machine", "number", "gone", "part"], defScope s__law_stays, fun _ => true, k, E⟩ 3 "part" := ⟨nd, rfl, .inl rfl, .inl rfl⟩
  exact DSs.monoD (dss_cons (ds_asg t3 (de_if (dt_cmp co_eq (da_cons (de_ix (da_cons (de_ix (da_cons (de_ix (da_cons (de_sl n0) (da_cons (de_int) (da_nil))) (fun _ _ => rfl)) (da_cons (de_sl n1) (da_nil))) (fun _ _ => rfl)) (da_cons (de_int) (da_nil))) (fun _ _ => rfl)) (da_cons (de_str) (da_nil))) (nomark _)) (de_int) (de_int)) (fun _ => rfl)) (dss_cons (ds_ret (de_cmp co_gt (da_cons (de_len ⟨rfl, m_len⟩ (da_cons (de_call f__law_unnamed (Nat.le_trans (by decide) hk) rfl (da_cons (de_sl n0) (da_cons (de_sl n1) (da_cons (de_imm (de_sl n3)) (da_cons (de_sl n2) (da_nil))))) ⟨fun _ => rfl, fun _ => rfl, fun _ => rfl, fun _ => rfl, trivial⟩ rfl rfl (by decide)) (da_nil)) ⟨fun _ => rfl, trivial⟩) (da_cons (de_int) (da_nil))) (nomark _))) (dss_nil))) (by decide) (by decide)
theorem i__law_stays {P : Program} {w : World} {K : PySem.W.Frag} {mg : Str → Option Value} {base : Heap} {k : Nat} (f__law_unnamed : FnI P w K mg base "_law_unnamed" F__law_unnamed [] 4 1) (m_len : mg "len" = none) (hk : 1 ≤ k) {fa : Addr} {fd : FuncData} (Fu : Fun K "_law_stays" "_law_stays" s__law_stays fa fd) (hm : mg "_law_stays" = some (.ref fa)) (bi : Binds K fd ["machine", "number", "gone"] []) : FnI P w K mg base "_law_stays" F__law_stays [] 3 (k + 1) := by
  unfold F__law_stays
  exact
  FnI.mk' Fu (fn_rule Fu sc__law_stays (b__law_stays f__law_unnamed m_len hk) rfl rfl (by decide) (by decide)) hm bi
abbrev s__law_left : Stmt := topS 26
theorem sc__law_left : FnScope ["machine", "gone", "bars", "number", "chain", "closing"] ["machine", "gone"] (defScope s__law_left) := ⟨rfl, rfl, rfl, by decide +kernel, rfl, by decide +kernel, by decide +kernel⟩
theorem b__law_left {P : Program} {w : World} {K : PySem.W.Frag} {mg : Str → Option Value} {base : Heap} {k : Nat} (f__law_stays : FnI P w K mg base "_law_stays" F__law_stays [] 3 2) (f__law_unnamed : FnI P w K mg base "_law_unnamed" F__law_unnamed [] 4 1) (m_len : mg "len" = none) (m_range : mg "range" = none) (m_tuple : mg "tuple" = none) (hk : 2 ≤ k) (E : XK) : DSs ⟨P, w, K, mg, base, ["machine", "gone", "bars", "number", "chain", "closing"], defScope s__law_left, fun _ => true, k, E⟩ (defBody s__law_left) [2, 3, 4, 5] [2, 3, 4, 5] g__law_left := by
  have nd : (["machine", "gone", "bars", "number", "chain", "closing"] : List Str).Nodup := sc__law_left.nd
  have n0 : NmS ⟨P, w, K, mg, base, ["machine", "gone", "bars", "number", "chain", "closing"], defScope s__law_left, fun _ => true, k, E⟩ 0 "machine" := ⟨rfl, .inl rfl, by decide, by decide⟩
  have n1 : NmS ⟨P, w, K, mg, base, ["machine", "gone", "bars", "number", "chain", "closing"], defScope s__law_left, fun _ => true, k, E⟩ 1 "gone" := ⟨rfl, .inl rfl, by decide, by decide⟩
  have n2 : NmS ⟨P, w, K, mg, base, ["machine", "gone", "bars", "number", "chain", "closing"], defScope s__law_left, fun _ => true, k, E⟩ 2 "bars" := ⟨rfl, .inl rfl, by decide, by decide⟩
  have t2 : NmT ⟨P, w, K, mg, base, ["machine", "gone", "bars", "number", "chain", "closing"], defScope s__law_left, fun _ => true, k, E⟩ 2 "bars" := ⟨nd, rfl, .inl rfl, .inl rfl⟩
  have n3 : NmS ⟨P, w, K, mg, base, ["machine", "gone", "bars", "number", "chain", "closing"], defScope s__law_left, fun _ => true, k, E⟩ 3 "number" := ⟨rfl, .inl rfl, by decide, by decide⟩
  have t3 : NmT ⟨P, w, K, mg, base, ["machine", "gone", "bars", "number", "chain", "closing"], defScope s__law_left, fun _ => true, k, E⟩ 3 "number" := ⟨nd, rfl, .inl rfl, .inl rfl⟩
  have n4 : NmS ⟨P, w, K, mg, base, ["machine", "gone", "bars", "number", "chain", "closing"], defScope s__law_left, fun _ => true, k, E⟩ 4 "chain" := ⟨rfl, .inl rfl, by decide, by decide⟩
  have t4 : NmT ⟨P, w, K, mg, base, ["machine", "gone", "bars", "number", "chain", "closing"], defScope s__law_left, fun _ => true, k, E⟩ 4 "chain" := ⟨nd, rfl, .inl rfl, .inl rfl⟩
  have n5 : NmS ⟨P, w, K, mg, base, ["machine", "gone", "bars", "number", "chain", "closing"], defScope s__law_left, fun _ => true, k, E⟩ 5 "closing" := ⟨rfl, .inl rfl, by decide, by decide⟩
  have t5 : NmT ⟨P, w, K, mg, base, ["machine", "gone", "bars", "number", "chain", "closing"], defScope s__law_left, fun _ => true, k, E⟩ 5 "closing" := ⟨nd, rfl, .inl rfl, .inl rfl⟩
  exact DSs.monoD (dss_cons (ds_asg t2 (de_lst (da_nil) rfl trivial) (fun _ => rfl)) (dss_cons (ds_for (di_rng1 ⟨rfl, m_range⟩ (da_cons (de_len ⟨rfl, m_len⟩ (da_cons (de_ix (da_cons (de_sl n0) (da_cons (de_int) (da_nil))) (fun _ _ => rfl)) (da_nil)) ⟨fun _ => rfl, trivial⟩) (da_nil)) ⟨fun _ => rfl, trivial⟩) (tg_nm t3) (dss_cons (ds_if (dt_tr (de_call f__law_stays (Nat.le_trans (by decide) hk) rfl (da_cons (de_sl n0) (da_cons (de_imm (de_sl n3)) (da_cons (de_sl n1) (da_nil)))) ⟨fun _ => rfl, fun _ => rfl, fun _ => rfl, trivial⟩ rfl rfl (by decide)) (fun _ _ => rfl)) (dss_cons (ds_asg t4 (de_tupleC ⟨rfl, m_tuple⟩ (da_cons (de_call f__law_unnamed (Nat.le_trans (by decide) hk) rfl (da_cons (de_sl n0) (da_cons (de_imm (de_sl n3)) (da_cons (de_int) (da_cons (de_sl n1) (da_nil))))) ⟨fun _ => rfl, fun _ => rfl, fun _ => rfl, fun _ => rfl, trivial⟩ rfl rfl (by decide)) (da_nil)) ⟨fun _ => rfl, trivial⟩) (fun _ => rfl)) (dss_cons (ds_asg t5 (de_tupleC ⟨rfl, m_tuple⟩ (da_cons (de_call f__law_unnamed (Nat.le_trans (by decide) hk) rfl (da_cons (de_sl n0) (da_cons (de_imm (de_sl n3)) (da_cons (de_int) (da_cons (de_sl n1) (da_nil))))) ⟨fun _ => rfl, fun _ => rfl, fun _ => rfl, fun _ => rfl, trivial⟩ rfl rfl (by decide)) (da_nil)) ⟨fun _ => rfl, trivial⟩) (fun _ => rfl)) (dss_cons (ds_app n2 (de_tup (da_cons (de_ix (da_cons (de_ix (da_cons (de_ix (da_cons (de_sl n0) (da_cons (de_int) (da_nil))) (fun _ _ => rfl)) (da_cons (de_sl n3) (da_nil))) (fun _ _ => rfl)) (da_cons (de_int) (da_nil))) (fun _ _ => rfl)) (da_cons (de_ix (da_cons (de_ix (da_cons (de_ix (da_cons (de_sl n0) (da_cons (de_int) (da_nil))) (fun _ _ => rfl)) (da_cons (de_sl n3) (da_nil))) (fun _ _ => rfl)) (da_cons (de_int) (da_nil))) (fun _ _ => rfl)) (da_cons (de_imm (de_sl n4)) (da_cons (de_imm (de_sl n5)) (da_nil))))) rfl ⟨fun _ => rfl, fun _ => rfl, fun _ => rfl, fun _ => rfl, trivial⟩) ⟨fun _ => rfl, trivial⟩ (fun _ => rfl) rfl (fun _ => rfl) (fun _ => rfl)) (dss_nil)))) (dss_nil)) (dss_nil)) (fun _ _ => rfl) (by decide)) (dss_cons (ds_ret (de_tup (da_cons (de_ix (da_cons (de_sl n0) (da_cons (de_int) (da_nil))) (fun _ _ => rfl)) (da_cons (de_ix (da_cons (de_sl n0) (da_cons (de_int) (da_nil))) (fun _ _ => rfl)) (da_cons (de_tupleC ⟨rfl, m_tuple⟩ (da_cons (de_sl n2) (da_nil)) ⟨fun _ => rfl, trivial⟩) (da_nil)))) rfl ⟨fun _ => rfl, fun _ => rfl, fun _ => rfl, trivial⟩)) (dss_nil)))) (by decide) (by decide)
theorem i__law_left {P : Program} {w : World} {K : PySem.W.Frag} {mg : Str → Option Value} {base : Heap} {k : Nat} (f__law_stays : FnI P w K mg base "_law_stays" F__law_stays [] 3 2) (f__law_unnamed : FnI P w K mg base "_law_unnamed" F__law_unnamed [] 4 1) (m_len : mg "len" = none) (m_range : mg "range" = none) (m_tuple : mg "tuple" = none) (hk : 2 ≤ k) {fa : Addr} {fd : FuncData} (Fu : Fun K "_law_left" "_law_left" s__law_left fa fd) (hm : mg "_law_left" = some (.ref fa)) (bi : Binds K fd ["machine", "gone"] []) : FnI P w K mg base "_law_left" F__law_left [] 2 (k + 1) := by
  unfold F__law_left
  exact
  FnI.mk' Fu (fn_rule Fu sc__law_left (b__law_left f__law_stays f__law_unnamed m_len m_range m_tuple hk) rfl rfl (by decide) (by decide)) hm bi
abbrev s__law_moved : Stmt := topS 27
theorem sc__law_moved : FnScope ["machine", "gone", "name", "number", "part", "index", "bar", "other"] ["machine", "gone", "name"] (defScope s__law_moved) := ⟨rfl, rfl, rfl, by decide +kernel, rfl, by decide +kernel, by decide +kernel⟩
theorem b__law_moved {P : Program} {w : World} {K : PySem.W.Frag} {mg : Str → Option Value} {base : Heap} {k : Nat} (f__law_stays : FnI P w K mg base "_law_stays" F__law_stays [] 3 2) (m_range : mg "range" = none) (m_len : mg "len" = none) (hk : 2 ≤ k) (E : XK) : DSs ⟨P, w, K, mg, base, ["machine", "gone", "name", "number", "part", "index", "bar", "other"], defScope s__law_moved, fun _ => true, k, E⟩ (defBody s__law_moved) [3, 4, 5, 6] [3, 4, 5, 6] g__law_moved := by
  have nd : (["machine", "gone", "name", "number", "part", "index", "bar", "other"] : List Str).Nodup := sc__law_moved.nd
  have n0 : NmS ⟨P, w, K, mg, base, ["machine", "gone", "name", "number", "part", "index", "bar", "other"], defScope s__law_moved, fun _ => true, k, E⟩ 0 "machine" := ⟨rfl, .inr (.inl rfl), by decide, by decide⟩
  have n1 : NmS ⟨P, w, K, mg, base, ["machine", "gone", "name", "number", "part", "index", "bar", "other"], defScope s__law_moved, fun _ => true, k, E⟩ 1 "gone" := ⟨rfl, .inr (.inl rfl), by decide, by decide⟩
  have n2 : NmS ⟨P, w, K, mg, base, ["machine", "gone", "name", "number", "part", "index", "bar", "other"], defScope s__law_moved, fun _ => true, k, E⟩ 2 "name" := ⟨rfl, .inl rfl, by decide, by decide⟩
  have n3 : NmS ⟨P, w, K, mg, base, ["machine", "gone", "name", "number", "part", "index", "bar", "other"], defScope s__law_moved, fun _ => true, k, E⟩ 3 "number" := ⟨rfl, .inr (.inl rfl), by decide, by decide⟩
  have t3 : NmT ⟨P, w, K, mg, base, ["machine", "gone", "name", "number", "part", "index", "bar", "other"], defScope s__law_moved, fun _ => true, k, E⟩ 3 "number" := ⟨nd, rfl, .inr rfl, .inl rfl⟩
  have n4 : NmS ⟨P, w, K, mg, base, ["machine", "gone", "name", "number", "part", "index", "bar", "other"], defScope s__law_moved, fun _ => true, k, E⟩ 4 "part" := ⟨rfl, .inr (.inl rfl), by decide, by decide⟩
  have t4 : NmT ⟨P, w, K, mg, base, ["machine", "gone", "name", "number", "part", "index", "bar", "other"], defScope s__law_moved, fun _ => true, k, E⟩ 4 "part" := ⟨nd, rfl, .inr rfl, .inl rfl⟩
  have n5 : NmS ⟨P, w, K, mg, base, ["machine", "gone", "name", "number", "part", "index", "bar", "other"], defScope s__law_moved, fun _ => true, k, E⟩ 5 "index" := ⟨rfl, .inl rfl, by decide, by decide⟩
  have t5 : NmT ⟨P, w, K, mg, base, ["machine", "gone", "name", "number", "part", "index", "bar", "other"], defScope s__law_moved, fun _ => true, k, E⟩ 5 "index" := ⟨nd, rfl, .inl rfl, .inl rfl⟩
  have n6 : NmS ⟨P, w, K, mg, base, ["machine", "gone", "name", "number", "part", "index", "bar", "other"], defScope s__law_moved, fun _ => true, k, E⟩ 6 "bar" := ⟨rfl, .inl rfl, by decide, by decide⟩
  have t6 : NmT ⟨P, w, K, mg, base, ["machine", "gone", "name", "number", "part", "index", "bar", "other"], defScope s__law_moved, fun _ => true, k, E⟩ 6 "bar" := ⟨nd, rfl, .inl rfl, .inl rfl⟩
  exact DSs.monoD (dss_cons (ds_asgT (TgsOk.cons t3 (TgsOk.cons t4 (TgsOk.cons t5 (TgsOk.nil) (fun _ => rfl)) (fun _ => rfl)) (fun _ => rfl)) (fun _ => rfl) (fun _ => rfl) (de_imm (de_sl n2)) (fun _ => rfl) (fun _ => rfl)) (dss_cons (ds_if (dt_w (dw_or (dt_cmp co_in (da_cons (de_sl n2) (da_cons (de_sl n1) (da_nil))) (by rfl)) (dw_or1 (dt_not (dt_tr (de_call f__law_stays (Nat.le_trans (by decide) hk) rfl (da_cons (de_sl n0) (da_cons (de_imm (de_sl n3)) (da_cons (de_sl n1) (da_nil)))) ⟨fun _ => rfl, fun _ => rfl, fun _ => rfl, trivial⟩ rfl rfl (by decide)) (fun _ _ => rfl)))))) (dss_cons (ds_ret (de_non)) (dss_nil)) (dss_nil)) (dss_cons (ds_asg t6 (de_len ⟨rfl, m_len⟩ (da_cons (de_comp nd (own := [("other", 7)]) (di_rng1 ⟨rfl, m_range⟩ (da_cons (de_sl n3) (da_nil)) ⟨fun _ => rfl, trivial⟩) (blkOk_by (by show blkC ["machine", "gone", "name", "number", "part", "index", "bar", "other"] (defScope s__law_moved) _ _ = true; decide +kernel)) (fun _ _ => rfl) (tg_nm ⟨nd, rfl, .inl rfl, .inr rfl⟩) (by decide) (dts_one (dt_tr (de_call f__law_stays (Nat.le_trans (by decide) hk) rfl (da_cons (de_sl (⟨rfl, (by first | exact .inr (.inl rfl) | exact .inr (.inr rfl)), by decide, by decide⟩ : NmS _ 0 "machine")) (da_cons (de_imm (de_sl (⟨rfl, .inl rfl, by decide, by decide⟩ : NmS _ 7 "other"))) (da_cons (de_sl (⟨rfl, (by first | exact .inr (.inl rfl) | exact .inr (.inr rfl)), by decide, by decide⟩ : NmS _ 1 "gone")) (da_nil)))) ⟨fun _ => rfl, fun _ => rfl, fun _ => rfl, trivial⟩ rfl rfl (by decide)) (fun _ _ => rfl))) (de_imm (de_sl (⟨rfl, .inl rfl, by decide, by decide⟩ : NmS _ 7 "other"))) (by decide)) (da_nil)) ⟨fun _ => rfl, trivial⟩) (fun _ => rfl)) (dss_cons (ds_ret (de_tup (da_cons (de_imm (de_sl n6)) (da_cons (de_imm (de_sl n4)) (da_cons (de_len ⟨rfl, m_len⟩ (da_cons (de_comp nd (own := [("other", 7)]) (di_rng1 ⟨rfl, m_range⟩ (da_cons (de_sl n5) (da_nil)) ⟨fun _ => rfl, trivial⟩) (blkOk_by (by show blkC ["machine", "gone", "name", "number", "part", "index", "bar", "other"] (defScope s__law_moved) _ _ = true; decide +kernel)) (fun _ _ => rfl) (tg_nm ⟨nd, rfl, .inl rfl, .inr rfl⟩) (by decide) (dts_one (dt_cmp co_nin (da_cons (de_tup (da_cons (de_imm (de_sl (⟨rfl, (by first | exact .inr (.inl rfl) | exact .inr (.inr rfl)), by decide, by decide⟩ : NmS _ 3 "number"))) (da_cons (de_imm (de_sl (⟨rfl, (by first | exact .inr (.inl rfl) | exact .inr (.inr rfl)), by decide, by decide⟩ : NmS _ 4 "part"))) (da_cons (de_imm (de_sl (⟨rfl, .inl rfl, by decide, by decide⟩ : NmS _ 7 "other"))) (da_nil)))) rfl ⟨fun _ => rfl, fun _ => rfl, fun _ => rfl, trivial⟩) (da_cons (de_sl (⟨rfl, (by first | exact .inr (.inl rfl) | exact .inr (.inr rfl)), by decide, by decide⟩ : NmS _ 1 "gone")) (da_nil))) (by rfl))) (de_imm (de_sl (⟨rfl, .inl rfl, by decide, by decide⟩ : NmS _ 7 "other"))) (by decide)) (da_nil)) ⟨fun _ => rfl, trivial⟩) (da_nil)))) rfl ⟨fun _ => rfl, fun _ => rfl, fun _ => rfl, trivial⟩)) (dss_nil))))) (by decide) (by decide)
theorem i__law_moved {P : Program} {w : World} {K : PySem.W.Frag} {mg : Str → Option Value} {base : Heap} {k : Nat} (f__law_stays : FnI P w K mg base "_law_stays" F__law_stays [] 3 2) (m_range : mg "range" = none) (m_len : mg "len" = none) (hk : 2 ≤ k) {fa : Addr} {fd : FuncData} (Fu : Fun K "_law_moved" "_law_moved" s__law_moved fa fd) (hm : mg "_law_moved" = some (.ref fa)) (bi : Binds K fd ["machine", "gone", "name"] []) : FnI P w K mg base "_law_moved" F__law_moved [] 3 (k + 1) := by
  unfold F__law_moved
  exact
  FnI.mk' Fu (fn_rule Fu sc__law_moved (b__law_moved f__law_stays m_range m_len hk) rfl rfl (by decide) (by decide)) hm bi
abbrev s__law_gone : Stmt := topS 28
theorem sc__law_gone : FnScope ["d", "machine", "names", "way", "one", "name"] ["d", "machine"] (defScope s__law_gone) := ⟨rfl, rfl, rfl, by decide +kernel, rfl, by decide +kernel, by decide +kernel⟩
theorem b__law_gone {P : Program} {w : World} {K : PySem.W.Frag} {mg : Str → Option Value} {base : Heap} {k : Nat} (f__law_named : FnI P w K mg base "_law_named" F__law_named [] 1 1) (f__law_draw : FnI P w K mg base "_law_draw" F__law_draw [0] 2 1) (f__law_pick : FnI P w K mg base "_law_pick" F__law_pick [0] 2 2) (m_len : mg "len" = none) (hk : 2 ≤ k) (E : XK) : DSs ⟨P, w, K, mg, base, ["d", "machine", "names", "way", "one", "name"], defScope s__law_gone, fun _ => true, k, E⟩ (defBody s__law_gone) [0, 2, 3, 4] [2, 3, 4] g__law_gone := by
  have nd : (["d", "machine", "names", "way", "one", "name"] : List Str).Nodup := sc__law_gone.nd
  have n0 : NmS ⟨P, w, K, mg, base, ["d", "machine", "names", "way", "one", "name"], defScope s__law_gone, fun _ => true, k, E⟩ 0 "d" := ⟨rfl, .inr (.inl rfl), by decide, by decide⟩
  have n1 : NmS ⟨P, w, K, mg, base, ["d", "machine", "names", "way", "one", "name"], defScope s__law_gone, fun _ => true, k, E⟩ 1 "machine" := ⟨rfl, .inl rfl, by decide, by decide⟩
  have n2 : NmS ⟨P, w, K, mg, base, ["d", "machine", "names", "way", "one", "name"], defScope s__law_gone, fun _ => true, k, E⟩ 2 "names" := ⟨rfl, .inl rfl, by decide, by decide⟩
  have t2 : NmT ⟨P, w, K, mg, base, ["d", "machine", "names", "way", "one", "name"], defScope s__law_gone, fun _ => true, k, E⟩ 2 "names" := ⟨nd, rfl, .inl rfl, .inl rfl⟩
  have n3 : NmS ⟨P, w, K, mg, base, ["d", "machine", "names", "way", "one", "name"], defScope s__law_gone, fun _ => true, k, E⟩ 3 "way" := ⟨rfl, .inl rfl, by decide, by decide⟩
  have t3 : NmT ⟨P, w, K, mg, base, ["d", "machine", "names", "way", "one", "name"], defScope s__law_gone, fun _ => true, k, E⟩ 3 "way" := ⟨nd, rfl, .inl rfl, .inl rfl⟩
  have n4 : NmS ⟨P, w, K, mg, base, ["d", "machine", "names", "way", "one", "name"], defScope s__law_gone, fun _ => true, k, E⟩ 4 "one" := ⟨rfl, .inr (.inl rfl), by decide, by decide⟩
  have t4 : NmT ⟨P, w, K, mg, base, ["d", "machine", "names", "way", "one", "name"], defScope s__law_gone, fun _ => true, k, E⟩ 4 "one" := ⟨nd, rfl, .inr rfl, .inl rfl⟩
  exact DSs.monoD (dss_cons (ds_asg t2 (de_call f__law_named (Nat.le_trans (by decide) hk) rfl (da_cons (de_sl n1) (da_nil)) ⟨fun _ => rfl, trivial⟩ rfl rfl (by decide)) (fun _ => rfl)) (dss_cons (ds_asg t3 (de_call f__law_draw (Nat.le_trans (by decide) hk) rfl (da_cons (de_sl n0) (da_cons (de_int) (da_nil))) ⟨fun _ => rfl, fun _ => rfl, trivial⟩ rfl rfl (by decide)) (fun _ => rfl)) (dss_cons (ds_if (dt_w (dw_or (dt_cmp co_eq (da_cons (de_len ⟨rfl, m_len⟩ (da_cons (de_sl n2) (da_nil)) ⟨fun _ => rfl, trivial⟩) (da_cons (de_int) (da_nil))) (nomark _)) (dw_or1 (dt_cmp co_eq (da_cons (de_sl n3) (da_cons (de_int) (da_nil))) (nomark _))))) (dss_cons (ds_ret (de_lst (da_nil) rfl trivial)) (dss_nil)) (dss_nil)) (dss_cons (ds_asg t4 (de_call f__law_pick (Nat.le_trans (by decide) hk) rfl (da_cons (de_sl n0) (da_cons (de_sl n2) (da_nil))) ⟨fun _ => rfl, fun _ => rfl, trivial⟩ rfl rfl (by decide)) (fun _ => rfl)) (dss_cons (ds_if (dt_cmp co_eq (da_cons (de_sl n3) (da_cons (de_int) (da_nil))) (nomark _)) (dss_cons (ds_ret (de_mv n2)) (dss_nil)) (dss_nil)) (dss_cons (ds_if (dt_cmp co_eq (da_cons (de_sl n3) (da_cons (de_int) (da_nil))) (nomark _)) (dss_cons (ds_ret (de_lst (da_cons (de_imm (de_sl n4)) (da_nil)) rfl ⟨fun _ => rfl, trivial⟩)) (dss_nil)) (dss_nil)) (dss_cons (ds_if (dt_cmp co_eq (da_cons (de_sl n3) (da_cons (de_int) (da_nil))) (nomark _)) (dss_cons (ds_ret (de_comp nd (own := [("name", 5)]) (di_seq (de_sl n2)) (blkOk_by (by show blkC ["d", "machine", "names", "way", "one", "name"] (defScope s__law_gone) _ _ = true; decide +kernel)) (fun _ _ => rfl) (tg_nm ⟨nd, rfl, .inl rfl, .inr rfl⟩) (by decide) (dts_one (dt_cmp co_ne (da_cons (de_sl (⟨rfl, .inl rfl, by decide, by decide⟩ : NmS _ 5 "name")) (da_cons (de_sl (⟨rfl, (by first | exact .inr (.inl rfl) | exact .inr (.inr rfl)), by decide, by decide⟩ : NmS _ 4 "one")) (da_nil))) (nomark _))) (de_imm (de_sl (⟨rfl, .inl rfl, by decide, by decide⟩ : NmS _ 5 "name"))) (by decide))) (dss_nil)) (dss_nil)) (dss_cons (ds_if (dt_cmp co_eq (da_cons (de_sl n3) (da_cons (de_int) (da_nil))) (nomark _)) (dss_cons (ds_ret (de_comp nd (own := [("name", 5)]) (di_seq (de_sl n2)) (blkOk_by (by show blkC ["d", "machine", "names", "way", "one", "name"] (defScope s__law_gone) _ _ = true; decide +kernel)) (fun _ _ => rfl) (tg_nm ⟨nd, rfl, .inl rfl, .inr rfl⟩) (by decide) (dts_one (dt_cmp co_eq (da_cons (de_sl01 (da_cons (de_sl (⟨rfl, .inl rfl, by decide, by decide⟩ : NmS _ 5 "name")) (da_cons (de_int) (da_nil)))) (da_cons (de_sl01 (da_cons (de_sl (⟨rfl, (by first | exact .inr (.inl rfl) | exact .inr (.inr rfl)), by decide, by decide⟩ : NmS _ 4 "one")) (da_cons (de_int) (da_nil)))) (da_nil))) (nomark _))) (de_imm (de_sl (⟨rfl, .inl rfl, by decide, by decide⟩ : NmS _ 5 "name"))) (by decide))) (dss_nil)) (dss_nil)) (dss_cons (ds_if (dt_cmp co_eq (da_cons (de_sl n3) (da_cons (de_int) (da_nil))) (nomark _)) (dss_cons (ds_ret (de_comp nd (own := [("name", 5)]) (di_seq (de_sl n2)) (blkOk_by (by show blkC ["d", "machine", "names", "way", "one", "name"] (defScope s__law_gone) _ _ = true; decide +kernel)) (fun _ _ => rfl) (tg_nm ⟨nd, rfl, .inl rfl, .inr rfl⟩) (by decide) (dts_one (dt_w (dw_and (dt_cmp co_eq (da_cons (de_ix (da_cons (de_sl (⟨rfl, .inl rfl, by decide, by decide⟩ : NmS _ 5 "name")) (da_cons (de_int) (da_nil))) (fun _ _ => rfl)) (da_cons (de_ix (da_cons (de_sl (⟨rfl, (by first | exact .inr (.inl rfl) | exact .inr (.inr rfl)), by decide, by decide⟩ : NmS _ 4 "one")) (da_cons (de_int) (da_nil))) (fun _ _ => rfl)) (da_nil))) (nomark _)) (dw_and1 (dt_cmp co_ne (da_cons (de_sl (⟨rfl, .inl rfl, by decide, by decide⟩ : NmS _ 5 "name")) (da_cons (de_sl (⟨rfl, (by first | exact .inr (.inl rfl) | exact .inr (.inr rfl)), by decide, by decide⟩ : NmS _ 4 "one")) (da_nil))) (nomark _)))))) (de_imm (de_sl (⟨rfl, .inl rfl, by decide, by decide⟩ : NmS _ 5 "name"))) (by decide))) (dss_nil)) (dss_nil)) (dss_cons (ds_ret (de_comp nd (own := [("name", 5)]) (di_seq (de_sl n2)) (blkOk_by (by show blkC ["d", "machine", "names", "way", "one", "name"] (defScope s__law_gone) _ _ = true; decide +kernel)) (fun _ _ => rfl) (tg_nm ⟨nd, rfl, .inl rfl, .inr rfl⟩) (by decide) (dts_one (dt_cmp co_gt (da_cons (de_call f__law_draw (Nat.le_trans (by decide) hk) rfl (da_cons (de_sl (⟨rfl, (by first | exact .inr (.inl rfl) | exact .inr (.inr rfl)), by decide, by decide⟩ : NmS _ 0 "d")) (da_cons (de_int) (da_nil))) ⟨fun _ => rfl, fun _ => rfl, trivial⟩ rfl rfl (by decide)) (da_cons (de_int) (da_nil))) (nomark _))) (de_imm (de_sl (⟨rfl, .inl rfl, by decide, by decide⟩ : NmS _ 5 "name"))) (by decide))) (dss_nil))))))))))) (by decide) (by decide)
theorem i__law_gone {P : Program} {w : World} {K : PySem.W.Frag} {mg : Str → Option Value} {base : Heap} {k : Nat} (f__law_named : FnI P w K mg base "_law_named" F__law_named [] 1 1) (f__law_draw : FnI P w K mg base "_law_draw" F__law_draw [0] 2 1) (f__law_pick : FnI P w K mg base "_law_pick" F__law_pick [0] 2 2) (m_len : mg "len" = none) (hk : 2 ≤ k) {fa : Addr} {fd : FuncData} (Fu : Fun K "_law_gone" "_law_gone" s__law_gone fa fd) (hm : mg "_law_gone" = some (.ref fa)) (bi : Binds K fd ["d", "machine"] []) : FnI P w K mg base "_law_gone" F__law_gone [0] 2 (k + 1) := by
  unfold F__law_gone
  exact
  FnI.mk' Fu (fn_rule Fu sc__law_gone (b__law_gone f__law_named f__law_draw f__law_pick m_len hk) rfl rfl (by decide) (by decide)) hm bi
abbrev s_law : Stmt := topS 29
theorem sc_law : FnScope ["script", "d", "first", "second", "machine", "gone", "due", "told", "more", "moved", "both", "name"] ["script"] (defScope s_law) := ⟨rfl, rfl, rfl, by decide +kernel, rfl, by decide +kernel, by decide +kernel⟩
theorem b_law {P : Program} {w : World} {K : PySem.W.Frag} {mg : Str → Option Value} {base : Heap} {k : Nat} (f__law_broad : FnI P w K mg base "_law_broad" F__law_broad [0] 1 7) (f__law_same : FnI P w K mg base "_law_same" (F__law_same 12) [] 2 14) (f_word_names : FnI P w K mg base "word_names" F_word_names [] 1 1) (f__law_named : FnI P w K mg base "_law_named" F__law_named [] 1 1) (f_drop_words : FnI P w K mg base "drop_words" F_drop_words [] 2 2) (f__law_gone : FnI P w K mg base "_law_gone" F__law_gone [0] 2 3) (f__law_left : FnI P w K mg base "_law_left" F__law_left [] 2 3) (f__law_shuffled : FnI P w K mg base "_law_shuffled" F__law_shuffled [0] 2 2) (f__law_moved : FnI P w K mg base "_law_moved" F__law_moved [] 3 3) (m_tuple : mg "tuple" = none) (hk : 14 ≤ k) (E : XK) : DSs ⟨P, w, K, mg, base, ["script", "d", "first", "second", "machine", "gone", "due", "told", "more", "moved", "both", "name"], defScope s_law, fun _ => true, k, E⟩ ((defBody s_law).tail) [1, 2, 3, 4, 5, 6, 7, 8, 9, 10] [1, 2, 3, 4, 5, 6, 7, 8, 9, 10] g_law := by
  have nd : (["script", "d", "first", "second", "machine", "gone", "due", "told", "more", "moved", "both", "name"] : List Str).Nodup := sc_law.nd
  have n0 : NmS ⟨P, w, K, mg, base, ["script", "d", "first", "second", "machine", "gone", "due", "told", "more", "moved", "both", "name"], defScope s_law, fun _ => true, k, E⟩ 0 "script" := ⟨rfl, .inl rfl, by decide, by decide⟩
  have n1 : NmS ⟨P, w, K, mg, base, ["script", "d", "first", "second", "machine", "gone", "due", "told", "more", "moved", "both", "name"], defScope s_law, fun _ => true, k, E⟩ 1 "d" := ⟨rfl, .inl rfl, by decide, by decide⟩
  have t1 : NmT ⟨P, w, K, mg, base, ["script", "d", "first", "second", "machine", "gone", "due", "told", "more", "moved", "both", "name"], defScope s_law, fun _ => true, k, E⟩ 1 "d" := ⟨nd, rfl, .inl rfl, .inl rfl⟩
  have n2 : NmS ⟨P, w, K, mg, base, ["script", "d", "first", "second", "machine", "gone", "due", "told", "more", "moved", "both", "name"], defScope s_law, fun _ => true, k, E⟩ 2 "first" := ⟨rfl, .inl rfl, by decide, by decide⟩
  have t2 : NmT ⟨P, w, K, mg, base, ["script", "d", "first", "second", "machine", "gone", "due", "told", "more", "moved", "both", "name"], defScope s_law, fun _ => true, k, E⟩ 2 "first" := ⟨nd, rfl, .inl rfl, .inl rfl⟩
  have n3 : NmS ⟨P, w, K, mg, base, ["script", "d", "first", "second", "machine", "gone", "due", "told", "more", "moved", "both", "name"], defScope s_law, fun _ => true, k, E⟩ 3 "second" := ⟨rfl, .inl rfl, by decide, by decide⟩
  have t3 : NmT ⟨P, w, K, mg, base, ["script", "d", "first", "second", "machine", "gone", "due", "told", "more", "moved", "both", "name"], defScope s_law, fun _ => true, k, E⟩ 3 "second" := ⟨nd, rfl, .inl rfl, .inl rfl⟩
  have n4 : NmS ⟨P, w, K, mg, base, ["script", "d", "first", "second", "machine", "gone", "due", "told", "more", "moved", "both", "name"], defScope s_law, fun _ => true, k, E⟩ 4 "machine" := ⟨rfl, .inr (.inl rfl), by decide, by decide⟩
  have t4 : NmT ⟨P, w, K, mg, base, ["script", "d", "first", "second", "machine", "gone", "due", "told", "more", "moved", "both", "name"], defScope s_law, fun _ => true, k, E⟩ 4 "machine" := ⟨nd, rfl, .inr rfl, .inl rfl⟩
  have n5 : NmS ⟨P, w, K, mg, base, ["script", "d", "first", "second", "machine", "gone", "due", "told", "more", "moved", "both", "name"], defScope s_law, fun _ => true, k, E⟩ 5 "gone" := ⟨rfl, .inr (.inl rfl), by decide, by decide⟩
  have t5 : NmT ⟨P, w, K, mg, base, ["script", "d", "first", "second", "machine", "gone", "due", "told", "more", "moved", "both", "name"], defScope s_law, fun _ => true, k, E⟩ 5 "gone" := ⟨nd, rfl, .inr rfl, .inl rfl⟩
  have n6 : NmS ⟨P, w, K, mg, base, ["script", "d", "first", "second", "machine", "gone", "due", "told", "more", "moved", "both", "name"], defScope s_law, fun _ => true, k, E⟩ 6 "due" := ⟨rfl, .inl rfl, by decide, by decide⟩
  have t6 : NmT ⟨P, w, K, mg, base, ["script", "d", "first", "second", "machine", "gone", "due", "told", "more", "moved", "both", "name"], defScope s_law, fun _ => true, k, E⟩ 6 "due" := ⟨nd, rfl, .inl rfl, .inl rfl⟩
  have n7 : NmS ⟨P, w, K, mg, base, ["script", "d", "first", "second", "machine", "gone", "due", "told", "more", "moved", "both", "name"], defScope s_law, fun _ => true, k, E⟩ 7 "told" := ⟨rfl, .inl rfl, by decide, by decide⟩
  have t7 : NmT ⟨P, w, K, mg, base, ["script", "d", "first", "second", "machine", "gone", "due", "told", "more", "moved", "both", "name"], defScope s_law, fun _ => true, k, E⟩ 7 "told" := ⟨nd, rfl, .inl rfl, .inl rfl⟩
  have n8 : NmS ⟨P, w, K, mg, base, ["script", "d", "first", "second", "machine", "gone", "due", "told", "more", "moved", "both", "name"], defScope s_law, fun _ => true, k, E⟩ 8 "more" := ⟨rfl, .inl rfl, by decide, by decide⟩
  have t8 : NmT ⟨P, w, K, mg, base, ["script", "d", "first", "second", "machine", "gone", "due", "told", "more", "moved", "both", "name"], defScope s_law, fun _ => true, k, E⟩ 8 "more" := ⟨nd, rfl, .inl rfl, .inl rfl⟩
  have n9 : NmS ⟨P, w, K, mg, base, ["script", "d", "first", "second", "machine", "gone", "due", "told", "more", "moved", "both", "name"], defScope s_law, fun _ => true, k, E⟩ 9 "moved" := ⟨rfl, .inl rfl, by decide, by decide⟩
  have t9 : NmT ⟨P, w, K, mg, base, ["script", "d", "first", "second", "machine", "gone", "due", "told", "more", "moved", "both", "name"], defScope s_law, fun _ => true, k, E⟩ 9 "moved" := ⟨nd, rfl, .inl rfl, .inl rfl⟩
  have n10 : NmS ⟨P, w, K, mg, base, ["script", "d", "first", "second", "machine", "gone", "due", "told", "more", "moved", "both", "name"], defScope s_law, fun _ => true, k, E⟩ 10 "both" := ⟨rfl, .inl rfl, by decide, by decide⟩
  have t10 : NmT ⟨P, w, K, mg, base, ["script", "d", "first", "second", "machine", "gone", "due", "told", "more", "moved", "both", "name"], defScope s_law, fun _ => true, k, E⟩ 10 "both" := ⟨nd, rfl, .inl rfl, .inl rfl⟩
  exact DSs.monoD (dss_cons (ds_asg t2 (de_call f__law_broad (Nat.le_trans (by decide) hk) rfl (da_cons (de_sl n1) (da_nil)) ⟨fun _ => rfl, trivial⟩ rfl rfl (by decide)) (fun _ => rfl)) (dss_cons (ds_asg t3 (de_call f__law_broad (Nat.le_trans (by decide) hk) rfl (da_cons (de_sl n1) (da_nil)) ⟨fun _ => rfl, trivial⟩ rfl rfl (by decide)) (fun _ => rfl)) (dss_cons (ds_for (di_seq (de_lst (da_cons (de_imm (de_sl n2)) (da_cons (de_imm (de_sl n3)) (da_cons (de_imm (de_sl n2)) (da_nil)))) rfl ⟨fun _ => rfl, fun _ => rfl, fun _ => rfl, trivial⟩)) (tg_nm t4) (dss_cons (ds_if (dt_not (dt_tr (de_call f__law_same (Nat.le_trans (by decide) hk) rfl (da_cons (de_call f_word_names (Nat.le_trans (by decide) hk) rfl (da_cons (de_imm (de_sl n4)) (da_nil)) ⟨fun _ => rfl, trivial⟩ rfl rfl (by decide)) (da_cons (de_tupleC ⟨rfl, m_tuple⟩ (da_cons (de_call f__law_named (Nat.le_trans (by decide) hk) rfl (da_cons (de_imm (de_sl n4)) (da_nil)) ⟨fun _ => rfl, trivial⟩ rfl rfl (by decide)) (da_nil)) ⟨fun _ => rfl, trivial⟩) (da_nil))) ⟨fun _ => rfl, fun _ => rfl, trivial⟩ rfl rfl (by decide)) (fun _ _ => rfl))) (dss_cons (ds_ret (de_bl)) (dss_nil)) (dss_nil)) (dss_cons (ds_if (dt_not (dt_tr (de_call f__law_same (Nat.le_trans (by decide) hk) rfl (da_cons (de_call f_drop_words (Nat.le_trans (by decide) hk) rfl (da_cons (de_imm (de_sl n4)) (da_cons (de_tup (da_nil) rfl trivial) (da_nil))) ⟨fun _ => rfl, fun _ => rfl, trivial⟩ rfl rfl (by decide)) (da_cons (de_imm (de_sl n4)) (da_nil))) ⟨fun _ => rfl, fun _ => rfl, trivial⟩ rfl rfl (by decide)) (fun _ _ => rfl))) (dss_cons (ds_ret (de_bl)) (dss_nil)) (dss_nil)) (dss_cons (ds_if (dt_not (dt_tr (de_call f__law_same (Nat.le_trans (by decide) hk) rfl (da_cons (de_call f_drop_words (Nat.le_trans (by decide) hk) rfl (da_cons (de_imm (de_sl n4)) (da_cons (de_tupleC ⟨rfl, m_tuple⟩ (da_cons (de_call f__law_named (Nat.le_trans (by decide) hk) rfl (da_cons (de_imm (de_sl n4)) (da_nil)) ⟨fun _ => rfl, trivial⟩ rfl rfl (by decide)) (da_nil)) ⟨fun _ => rfl, trivial⟩) (da_nil))) ⟨fun _ => rfl, fun _ => rfl, trivial⟩ rfl rfl (by decide)) (da_cons (de_tup (da_cons (de_ix (da_cons (de_sl n4) (da_cons (de_int) (da_nil))) (fun _ _ => rfl)) (da_cons (de_ix (da_cons (de_sl n4) (da_cons (de_int) (da_nil))) (fun _ _ => rfl)) (da_cons (de_tup (da_nil) rfl trivial) (da_nil)))) rfl ⟨fun _ => rfl, fun _ => rfl, fun _ => rfl, trivial⟩) (da_nil))) ⟨fun _ => rfl, fun _ => rfl, trivial⟩ rfl rfl (by decide)) (fun _ _ => rfl))) (dss_cons (ds_ret (de_bl)) (dss_nil)) (dss_nil)) (dss_cons (ds_asg t5 (de_call f__law_gone (Nat.le_trans (by decide) hk) rfl (da_cons (de_sl n1) (da_cons (de_imm (de_sl n4)) (da_nil))) ⟨fun _ => rfl, fun _ => rfl, trivial⟩ rfl rfl (by decide)) (fun _ => rfl)) (dss_cons (ds_asg t6 (de_call f__law_left (Nat.le_trans (by decide) hk) rfl (da_cons (de_imm (de_sl n4)) (da_cons (de_sl n5) (da_nil))) ⟨fun _ => rfl, fun _ => rfl, trivial⟩ rfl rfl (by decide)) (fun _ => rfl)) (dss_cons (ds_asg t7 (de_call f_drop_words (Nat.le_trans (by decide) hk) rfl (da_cons (de_imm (de_sl n4)) (da_cons (de_tupleC ⟨rfl, m_tuple⟩ (da_cons (de_call f__law_shuffled (Nat.le_trans (by decide) hk) rfl (da_cons (de_sl n1) (da_cons (de_sl n5) (da_nil))) ⟨fun _ => rfl, fun _ => rfl, trivial⟩ rfl rfl (by decide)) (da_nil)) ⟨fun _ => rfl, trivial⟩) (da_nil))) ⟨fun _ => rfl, fun _ => rfl, trivial⟩ rfl rfl (by decide)) (fun _ => rfl)) (dss_cons (ds_if (dt_w (dw_or (dt_not (dt_tr (de_call f__law_same (Nat.le_trans (by decide) hk) rfl (da_cons (de_imm (de_sl n7)) (da_cons (de_imm (de_sl n6)) (da_nil))) ⟨fun _ => rfl, fun _ => rfl, trivial⟩ rfl rfl (by decide)) (fun _ _ => rfl))) (dw_or1 (dt_not (dt_tr (de_call f__law_same (Nat.le_trans (by decide) hk) rfl (da_cons (de_call f_word_names (Nat.le_trans (by decide) hk) rfl (da_cons (de_imm (de_sl n7)) (da_nil)) ⟨fun _ => rfl, trivial⟩ rfl rfl (by decide)) (da_cons (de_tupleC ⟨rfl, m_tuple⟩ (da_cons (de_call f__law_named (Nat.le_trans (by decide) hk) rfl (da_cons (de_imm (de_sl n6)) (da_nil)) ⟨fun _ => rfl, trivial⟩ rfl rfl (by decide)) (da_nil)) ⟨fun _ => rfl, trivial⟩) (da_nil))) ⟨fun _ => rfl, fun _ => rfl, trivial⟩ rfl rfl (by decide)) (fun _ _ => rfl)))))) (dss_cons (ds_ret (de_bl)) (dss_nil)) (dss_nil)) (dss_cons (ds_asg t8 (de_call f__law_gone (Nat.le_trans (by decide) hk) rfl (da_cons (de_sl n1) (da_cons (de_imm (de_sl n4)) (da_nil))) ⟨fun _ => rfl, fun _ => rfl, trivial⟩ rfl rfl (by decide)) (fun _ => rfl)) (dss_cons (ds_asgLc t9 rfl (fun _ h => sw_true (by rw [h]; rfl) (by rw [h]; rfl) rfl (by decide +kernel)) (own := [("name", 11)]) (di_seq (de_call f__law_shuffled (Nat.le_trans (by decide) hk) rfl (da_cons (de_sl n1) (da_cons (de_sl n8) (da_nil))) ⟨fun _ => rfl, fun _ => rfl, trivial⟩ rfl rfl (by decide))) (blkOk_by (by show blkC ["script", "d", "first", "second", "machine", "gone", "due", "told", "more", "moved", "both", "name"] (defScope s_law) _ _ = true; decide +kernel)) (fun _ _ => rfl) (tg_nm ⟨nd, rfl, .inl rfl, .inr rfl⟩) (by decide) (dts_nil) (de_call f__law_moved (Nat.le_trans (by decide) hk) rfl (da_cons (de_imm (de_sl (⟨rfl, (by first | exact .inr (.inl rfl) | exact .inr (.inr rfl)), by decide, by decide⟩ : NmS _ 4 "machine"))) (da_cons (de_sl (⟨rfl, (by first | exact .inr (.inl rfl) | exact .inr (.inr rfl)), by decide, by decide⟩ : NmS _ 5 "gone")) (da_cons (de_imm (de_sl (⟨rfl, .inl rfl, by decide, by decide⟩ : NmS _ 11 "name"))) (da_nil)))) ⟨fun _ => rfl, fun _ => rfl, fun _ => rfl, trivial⟩ rfl rfl (by decide)) (by decide)) (dss_cons (ds_asg t10 (de_call f__law_left (Nat.le_trans (by decide) hk) rfl (da_cons (de_imm (de_sl n4)) (da_cons (de_add (da_cons (de_sl n5) (da_cons (de_comp nd (own := [("name", 11)]) (di_seq (de_sl n8)) (blkOk_by (by show blkC ["script", "d", "first", "second", "machine", "gone", "due", "told", "more", "moved", "both", "name"] (defScope s_law) _ _ = true; decide +kernel)) (fun _ _ => rfl) (tg_nm ⟨nd, rfl, .inl rfl, .inr rfl⟩) (by decide) (dts_one (dt_cmp co_nin (da_cons (de_sl (⟨rfl, .inl rfl, by decide, by decide⟩ : NmS _ 11 "name")) (da_cons (de_sl (⟨rfl, (by first | exact .inr (.inl rfl) | exact .inr (.inr rfl)), by decide, by decide⟩ : NmS _ 5 "gone")) (da_nil))) (by rfl))) (de_imm (de_sl (⟨rfl, .inl rfl, by decide, by decide⟩ : NmS _ 11 "name"))) (by decide)) (da_nil)))) (da_nil))) ⟨fun _ => rfl, fun _ => rfl, trivial⟩ rfl rfl (by decide)) (fun _ => rfl)) (dss_cons (ds_if (dt_not (dt_tr (de_call f__law_same (Nat.le_trans (by decide) hk) rfl (da_cons (de_call f_drop_words (Nat.le_trans (by decide) hk) rfl (da_cons (de_imm (de_sl n7)) (da_cons (de_tupleC ⟨rfl, m_tuple⟩ (da_cons (de_comp nd (own := [("name", 11)]) (di_seq (de_sl n9)) (blkOk_by (by show blkC ["script", "d", "first", "second", "machine", "gone", "due", "told", "more", "moved", "both", "name"] (defScope s_law) _ _ = true; decide +kernel)) (fun _ _ => rfl) (tg_nm ⟨nd, rfl, .inl rfl, .inr rfl⟩) (by decide) (dts_one (dt_notN (de_sl (⟨rfl, .inl rfl, by decide, by decide⟩ : NmS _ 11 "name")))) (de_imm (de_sl (⟨rfl, .inl rfl, by decide, by decide⟩ : NmS _ 11 "name"))) (by decide)) (da_nil)) ⟨fun _ => rfl, trivial⟩) (da_nil))) ⟨fun _ => rfl, fun _ => rfl, trivial⟩ rfl rfl (by decide)) (da_cons (de_imm (de_sl n10)) (da_nil))) ⟨fun _ => rfl, fun _ => rfl, trivial⟩ rfl rfl (by decide)) (fun _ _ => rfl))) (dss_cons (ds_ret (de_bl)) (dss_nil)) (dss_nil)) (dss_cons (ds_if (dt_not (dt_tr (de_call f__law_same (Nat.le_trans (by decide) hk) rfl (da_cons (de_call f_drop_words (Nat.le_trans (by decide) hk) rfl (da_cons (de_imm (de_sl n4)) (da_cons (de_tupleC ⟨rfl, m_tuple⟩ (da_cons (de_add (da_cons (de_sl n5) (da_cons (de_comp nd (own := [("name", 11)]) (di_seq (de_sl n8)) (blkOk_by (by show blkC ["script", "d", "first", "second", "machine", "gone", "due", "told", "more", "moved", "both", "name"] (defScope s_law) _ _ = true; decide +kernel)) (fun _ _ => rfl) (tg_nm ⟨nd, rfl, .inl rfl, .inr rfl⟩) (by decide) (dts_one (dt_cmp co_nin (da_cons (de_sl (⟨rfl, .inl rfl, by decide, by decide⟩ : NmS _ 11 "name")) (da_cons (de_sl (⟨rfl, (by first | exact .inr (.inl rfl) | exact .inr (.inr rfl)), by decide, by decide⟩ : NmS _ 5 "gone")) (da_nil))) (by rfl))) (de_imm (de_sl (⟨rfl, .inl rfl, by decide, by decide⟩ : NmS _ 11 "name"))) (by decide)) (da_nil)))) (da_nil)) ⟨fun _ => rfl, trivial⟩) (da_nil))) ⟨fun _ => rfl, fun _ => rfl, trivial⟩ rfl rfl (by decide)) (da_cons (de_imm (de_sl n10)) (da_nil))) ⟨fun _ => rfl, fun _ => rfl, trivial⟩ rfl rfl (by decide)) (fun _ _ => rfl))) (dss_cons (ds_ret (de_bl)) (dss_nil)) (dss_nil)) (dss_nil))))))))))))) (fun _ _ => rfl) (by decide)) (dss_cons (ds_ret (de_bl)) (dss_nil))))) (by decide) (by decide)
theorem i_law {P : Program} {w : World} {K : PySem.W.Frag} {mg : Str → Option Value} {base : Heap} {k : Nat} (f__law_broad : FnI P w K mg base "_law_broad" F__law_broad [0] 1 7) (f__law_same : FnI P w K mg base "_law_same" (F__law_same 12) [] 2 14) (f_word_names : FnI P w K mg base "word_names" F_word_names [] 1 1) (f__law_named : FnI P w K mg base "_law_named" F__law_named [] 1 1) (f_drop_words : FnI P w K mg base "drop_words" F_drop_words [] 2 2) (f__law_gone : FnI P w K mg base "_law_gone" F__law_gone [0] 2 3) (f__law_left : FnI P w K mg base "_law_left" F__law_left [] 2 3) (f__law_shuffled : FnI P w K mg base "_law_shuffled" F__law_shuffled [0] 2 2) (f__law_moved : FnI P w K mg base "_law_moved" F__law_moved [] 3 3) (m_tuple : mg "tuple" = none) (hk : 14 ≤ k) {fa fb : Addr} {fd fdb : FuncData} (Fu : Fun K "law" "law" s_law fa fd) (FB : FnOk P w K mg base (L2.CX P w) 1 fb fdb ["script"] (spBegin K)) (hmb : mg "_law_begin" = some (.ref fb)) (kpb : PySem.W.keepIn K (.ref fb) = true) (bib : Binds K fdb ["script"] [])
    (hg : ∀ ns : List Int, ns.length ≤ 63 → wp (g_law (none :: some (dst ⟨ns, 0, 0, 7⟩) :: List.replicate 10 none)) fun fl _ => fl = .rt (.bool true)) : FnOk P w K mg base (L2.CX P w) (k + 1) fa fd ["script"] (spLaw K) :=
  law_rule Fu sc_law FB hmb kpb bib (Nat.le_trans (by decide) hk) rfl rfl (fun _ => ⟨rfl, .inl rfl, by decide, by decide⟩) (fun _ => ⟨sc_law.nd, rfl, .inl rfl, .inl rfl⟩) rfl (fun E => b_law f__law_broad f__law_same f_word_names f__law_named f_drop_words f__law_gone f__law_left f__law_shuffled f__law_moved m_tuple (Nat.le_trans (by decide) hk) E) hg
end UA
set_option maxHeartbeats 4000000
namespace UA
open PySem PySem.Spec PyProof.Rows L2 DL
theorem all_mk {l : PySem.W.OpenLaw} {w : World} {K : PySem.W.Frag} {h : Heap} {mg : Str → Option Value} {fa : Addr} (X : K.In h) (G : h.Ns mainGlobals mg) (hfa : mg "law" = some (.ref fa))
    {f0 : Addr} {od0 an0 : Option Addr} {fs0 : Array (Option Value)} {oc0 kV0 dc0 pm0 cd0 ct0 : Value}
    {f1 : Addr} {od1 an1 : Option Addr} {fs1 : Array (Option Value)} {oc1 kV1 dc1 pm1 cd1 ct1 : Value}
    {f2 : Addr} {od2 an2 : Option Addr} {fs2 : Array (Option Value)} {oc2 kV2 dc2 pm2 cd2 ct2 : Value}
    {f3 : Addr} {od3 an3 : Option Addr} {fs3 : Array (Option Value)} {oc3 kV3 dc3 pm3 cd3 ct3 : Value}
    {f4 : Addr} {od4 an4 : Option Addr} {fs4 : Array (Option Value)} {oc4 kV4 dc4 pm4 cd4 ct4 : Value}
    {f5 : Addr} {od5 an5 : Option Addr} {fs5 : Array (Option Value)} {oc5 kV5 dc5 pm5 cd5 ct5 : Value}
    {f6 : Addr} {od6 an6 : Option Addr} {fs6 : Array (Option Value)} {oc6 kV6 dc6 pm6 cd6 ct6 : Value}
    {f7 : Addr} {od7 an7 : Option Addr} {fs7 : Array (Option Value)} {oc7 kV7 dc7 pm7 cd7 ct7 : Value}
    {f8 : Addr} {od8 an8 : Option Addr} {fs8 : Array (Option Value)} {oc8 kV8 dc8 pm8 cd8 ct8 : Value}
    {f9 : Addr} {od9 an9 : Option Addr} {fs9 : Array (Option Value)} {oc9 kV9 dc9 pm9 cd9 ct9 : Value}
    {f10 : Addr} {od10 an10 : Option Addr} {fs10 : Array (Option Value)} {oc10 kV10 dc10 pm10 cd10 ct10 : Value}
    {f11 : Addr} {od11 an11 : Option Addr} {fs11 : Array (Option Value)} {oc11 kV11 dc11 pm11 cd11 ct11 : Value}
    {f12 : Addr} {od12 an12 : Option Addr} {fs12 : Array (Option Value)} {oc12 kV12 dc12 pm12 cd12 ct12 : Value}
    {f13 : Addr} {od13 an13 : Option Addr} {fs13 : Array (Option Value)} {oc13 kV13 dc13 pm13 cd13 ct13 : Value}
    {f14 : Addr} {od14 an14 : Option Addr} {fs14 : Array (Option Value)} {oc14 kV14 dc14 pm14 cd14 ct14 : Value}
    {f15 : Addr} {od15 an15 : Option Addr} {fs15 : Array (Option Value)} {oc15 kV15 dc15 pm15 cd15 ct15 : Value}
    {f16 : Addr} {od16 an16 : Option Addr} {fs16 : Array (Option Value)} {oc16 kV16 dc16 pm16 cd16 ct16 : Value}
    {f17 : Addr} {od17 an17 : Option Addr} {fs17 : Array (Option Value)} {oc17 kV17 dc17 pm17 cd17 ct17 : Value}
    {f18 : Addr} {od18 an18 : Option Addr} {fs18 : Array (Option Value)} {oc18 kV18 dc18 pm18 cd18 ct18 : Value}
    {f19 : Addr} {od19 an19 : Option Addr} {fs19 : Array (Option Value)} {oc19 kV19 dc19 pm19 cd19 ct19 : Value}
    {f20 : Addr} {od20 an20 : Option Addr} {fs20 : Array (Option Value)} {oc20 kV20 dc20 pm20 cd20 ct20 : Value}
    {f21 : Addr} {od21 an21 : Option Addr} {fs21 : Array (Option Value)} {oc21 kV21 dc21 pm21 cd21 ct21 : Value}
    {f22 : Addr} {od22 an22 : Option Addr} {fs22 : Array (Option Value)} {oc22 kV22 dc22 pm22 cd22 ct22 : Value}
    {f23 : Addr} {od23 an23 : Option Addr} {fs23 : Array (Option Value)} {oc23 kV23 dc23 pm23 cd23 ct23 : Value}
    {f24 : Addr} {od24 an24 : Option Addr} {fs24 : Array (Option Value)} {oc24 kV24 dc24 pm24 cd24 ct24 : Value}
    {f25 : Addr} {od25 an25 : Option Addr} {fs25 : Array (Option Value)} {oc25 kV25 dc25 pm25 cd25 ct25 : Value}
    {f26 : Addr} {od26 an26 : Option Addr} {fs26 : Array (Option Value)} {oc26 kV26 dc26 pm26 cd26 ct26 : Value}
    {f27 : Addr} {od27 an27 : Option Addr} {fs27 : Array (Option Value)} {oc27 kV27 dc27 pm27 cd27 ct27 : Value}
    (a0 : PySem.W.nsIn K mainGlobals "word_names" = some (some (.ref f0))) (l0 : K.lookup f0 = some ⟨oc0, od0, .func (PySem.W.fnOf "word_names" "word_names" (defArgs s_word_names) (defBody s_word_names) (defScope s_word_names) .none kV0 dc0 pm0 an0 cd0 ct0), fs0⟩) (c0 : PySem.W.codeIn K cd0 "word_names" = true) (k0 : PySem.W.keepIn K (.ref f0) = true)
    (a1 : PySem.W.nsIn K mainGlobals "left_words" = some (some (.ref f1))) (l1 : K.lookup f1 = some ⟨oc1, od1, .func (PySem.W.fnOf "left_words" "left_words" (defArgs s_left_words) (defBody s_left_words) (defScope s_left_words) .none kV1 dc1 pm1 an1 cd1 ct1), fs1⟩) (c1 : PySem.W.codeIn K cd1 "left_words" = true) (k1 : PySem.W.keepIn K (.ref f1) = true)
    (a2 : PySem.W.nsIn K mainGlobals "drop_words" = some (some (.ref f2))) (l2 : K.lookup f2 = some ⟨oc2, od2, .func (PySem.W.fnOf "drop_words" "drop_words" (defArgs s_drop_words) (defBody s_drop_words) (defScope s_drop_words) .none kV2 dc2 pm2 an2 cd2 ct2), fs2⟩) (c2 : PySem.W.codeIn K cd2 "drop_words" = true) (k2 : PySem.W.keepIn K (.ref f2) = true)
    (a3 : PySem.W.nsIn K mainGlobals "_law_begin" = some (some (.ref f3))) (l3 : K.lookup f3 = some ⟨oc3, od3, .func (PySem.W.fnOf "_law_begin" "_law_begin" (defArgs s__law_begin) (defBody s__law_begin) (defScope s__law_begin) .none kV3 dc3 pm3 an3 cd3 ct3), fs3⟩) (c3 : PySem.W.codeIn K cd3 "_law_begin" = true) (k3 : PySem.W.keepIn K (.ref f3) = true)
    (a4 : PySem.W.nsIn K mainGlobals "_law_draw" = some (some (.ref f4))) (l4 : K.lookup f4 = some ⟨oc4, od4, .func (PySem.W.fnOf "_law_draw" "_law_draw" (defArgs s__law_draw) (defBody s__law_draw) (defScope s__law_draw) .none kV4 dc4 pm4 an4 cd4 ct4), fs4⟩) (c4 : PySem.W.codeIn K cd4 "_law_draw" = true) (k4 : PySem.W.keepIn K (.ref f4) = true)
    (a5 : PySem.W.nsIn K mainGlobals "_law_pick" = some (some (.ref f5))) (l5 : K.lookup f5 = some ⟨oc5, od5, .func (PySem.W.fnOf "_law_pick" "_law_pick" (defArgs s__law_pick) (defBody s__law_pick) (defScope s__law_pick) .none kV5 dc5 pm5 an5 cd5 ct5), fs5⟩) (c5 : PySem.W.codeIn K cd5 "_law_pick" = true) (k5 : PySem.W.keepIn K (.ref f5) = true)
    (a6 : PySem.W.nsIn K mainGlobals "_law_pop" = some (some (.ref f6))) (l6 : K.lookup f6 = some ⟨oc6, od6, .func (PySem.W.fnOf "_law_pop" "_law_pop" (defArgs s__law_pop) (defBody s__law_pop) (defScope s__law_pop) .none kV6 dc6 pm6 an6 cd6 ct6), fs6⟩) (c6 : PySem.W.codeIn K cd6 "_law_pop" = true) (k6 : PySem.W.keepIn K (.ref f6) = true)
    (a7 : PySem.W.nsIn K mainGlobals "_law_rare" = some (some (.ref f7))) (l7 : K.lookup f7 = some ⟨oc7, od7, .func (PySem.W.fnOf "_law_rare" "_law_rare" (defArgs s__law_rare) (defBody s__law_rare) (defScope s__law_rare) .none kV7 dc7 pm7 an7 cd7 ct7), fs7⟩) (c7 : PySem.W.codeIn K cd7 "_law_rare" = true) (k7 : PySem.W.keepIn K (.ref f7) = true)
    (a8 : PySem.W.nsIn K mainGlobals "_law_shuffled" = some (some (.ref f8))) (l8 : K.lookup f8 = some ⟨oc8, od8, .func (PySem.W.fnOf "_law_shuffled" "_law_shuffled" (defArgs s__law_shuffled) (defBody s__law_shuffled) (defScope s__law_shuffled) .none kV8 dc8 pm8 an8 cd8 ct8), fs8⟩) (c8 : PySem.W.codeIn K cd8 "_law_shuffled" = true) (k8 : PySem.W.keepIn K (.ref f8) = true)
    (a9 : PySem.W.nsIn K mainGlobals "_law_some" = some (some (.ref f9))) (l9 : K.lookup f9 = some ⟨oc9, od9, .func (PySem.W.fnOf "_law_some" "_law_some" (defArgs s__law_some) (defBody s__law_some) (defScope s__law_some) .none kV9 dc9 pm9 an9 cd9 ct9), fs9⟩) (c9 : PySem.W.codeIn K cd9 "_law_some" = true) (k9 : PySem.W.keepIn K (.ref f9) = true)
    (a10 : PySem.W.nsIn K mainGlobals "_law_pool" = some (some (.ref f10))) (l10 : K.lookup f10 = some ⟨oc10, od10, .func (PySem.W.fnOf "_law_pool" "_law_pool" (defArgs s__law_pool) (defBody s__law_pool) (defScope s__law_pool) .none kV10 dc10 pm10 an10 cd10 ct10), fs10⟩) (c10 : PySem.W.codeIn K cd10 "_law_pool" = true) (k10 : PySem.W.keepIn K (.ref f10) = true)
    (a11 : PySem.W.nsIn K mainGlobals "_law_is_int" = some (some (.ref f11))) (l11 : K.lookup f11 = some ⟨oc11, od11, .func (PySem.W.fnOf "_law_is_int" "_law_is_int" (defArgs s__law_is_int) (defBody s__law_is_int) (defScope s__law_is_int) .none kV11 dc11 pm11 an11 cd11 ct11), fs11⟩) (c11 : PySem.W.codeIn K cd11 "_law_is_int" = true) (k11 : PySem.W.keepIn K (.ref f11) = true)
    (a12 : PySem.W.nsIn K mainGlobals "_law_letters" = some (some (.ref f12))) (l12 : K.lookup f12 = some ⟨oc12, od12, .func (PySem.W.fnOf "_law_letters" "_law_letters" (defArgs s__law_letters) (defBody s__law_letters) (defScope s__law_letters) .none kV12 dc12 pm12 an12 cd12 ct12), fs12⟩) (c12 : PySem.W.codeIn K cd12 "_law_letters" = true) (k12 : PySem.W.keepIn K (.ref f12) = true)
    (a13 : PySem.W.nsIn K mainGlobals "_law_labels" = some (some (.ref f13))) (l13 : K.lookup f13 = some ⟨oc13, od13, .func (PySem.W.fnOf "_law_labels" "_law_labels" (defArgs s__law_labels) (defBody s__law_labels) (defScope s__law_labels) .none kV13 dc13 pm13 an13 cd13 ct13), fs13⟩) (c13 : PySem.W.codeIn K cd13 "_law_labels" = true) (k13 : PySem.W.keepIn K (.ref f13) = true)
    (a14 : PySem.W.nsIn K mainGlobals "_law_sieve" = some (some (.ref f14))) (l14 : K.lookup f14 = some ⟨oc14, od14, .func (PySem.W.fnOf "_law_sieve" "_law_sieve" (defArgs s__law_sieve) (defBody s__law_sieve) (defScope s__law_sieve) .none kV14 dc14 pm14 an14 cd14 ct14), fs14⟩) (c14 : PySem.W.codeIn K cd14 "_law_sieve" = true) (k14 : PySem.W.keepIn K (.ref f14) = true)
    (a15 : PySem.W.nsIn K mainGlobals "_law_filter_for" = some (some (.ref f15))) (l15 : K.lookup f15 = some ⟨oc15, od15, .func (PySem.W.fnOf "_law_filter_for" "_law_filter_for" (defArgs s__law_filter_for) (defBody s__law_filter_for) (defScope s__law_filter_for) .none kV15 dc15 pm15 an15 cd15 ct15), fs15⟩) (c15 : PySem.W.codeIn K cd15 "_law_filter_for" = true) (k15 : PySem.W.keepIn K (.ref f15) = true)
    (a16 : PySem.W.nsIn K mainGlobals "_law_word" = some (some (.ref f16))) (l16 : K.lookup f16 = some ⟨oc16, od16, .func (PySem.W.fnOf "_law_word" "_law_word" (defArgs s__law_word) (defBody s__law_word) (defScope s__law_word) .none kV16 dc16 pm16 an16 cd16 ct16), fs16⟩) (c16 : PySem.W.codeIn K cd16 "_law_word" = true) (k16 : PySem.W.keepIn K (.ref f16) = true)
    (a17 : PySem.W.nsIn K mainGlobals "_law_words" = some (some (.ref f17))) (l17 : K.lookup f17 = some ⟨oc17, od17, .func (PySem.W.fnOf "_law_words" "_law_words" (defArgs s__law_words) (defBody s__law_words) (defScope s__law_words) .none kV17 dc17 pm17 an17 cd17 ct17), fs17⟩) (c17 : PySem.W.codeIn K cd17 "_law_words" = true) (k17 : PySem.W.keepIn K (.ref f17) = true)
    (a18 : PySem.W.nsIn K mainGlobals "_law_same" = some (some (.ref f18))) (l18 : K.lookup f18 = some ⟨oc18, od18, .func (PySem.W.fnOf "_law_same" "_law_same" (defArgs s__law_same) (defBody s__law_same) (defScope s__law_same) .none kV18 dc18 pm18 an18 cd18 ct18), fs18⟩) (c18 : PySem.W.codeIn K cd18 "_law_same" = true) (k18 : PySem.W.keepIn K (.ref f18) = true)
    (a19 : PySem.W.nsIn K mainGlobals "_law_listed" = some (some (.ref f19))) (l19 : K.lookup f19 = some ⟨oc19, od19, .func (PySem.W.fnOf "_law_listed" "_law_listed" (defArgs s__law_listed) (defBody s__law_listed) (defScope s__law_listed) .none kV19 dc19 pm19 an19 cd19 ct19), fs19⟩) (c19 : PySem.W.codeIn K cd19 "_law_listed" = true) (k19 : PySem.W.keepIn K (.ref f19) = true)
    (a20 : PySem.W.nsIn K mainGlobals "_law_broad" = some (some (.ref f20))) (l20 : K.lookup f20 = some ⟨oc20, od20, .func (PySem.W.fnOf "_law_broad" "_law_broad" (defArgs s__law_broad) (defBody s__law_broad) (defScope s__law_broad) .none kV20 dc20 pm20 an20 cd20 ct20), fs20⟩) (c20 : PySem.W.codeIn K cd20 "_law_broad" = true) (k20 : PySem.W.keepIn K (.ref f20) = true)
    (a21 : PySem.W.nsIn K mainGlobals "_law_named" = some (some (.ref f21))) (l21 : K.lookup f21 = some ⟨oc21, od21, .func (PySem.W.fnOf "_law_named" "_law_named" (defArgs s__law_named) (defBody s__law_named) (defScope s__law_named) .none kV21 dc21 pm21 an21 cd21 ct21), fs21⟩) (c21 : PySem.W.codeIn K cd21 "_law_named" = true) (k21 : PySem.W.keepIn K (.ref f21) = true)
    (a22 : PySem.W.nsIn K mainGlobals "_law_unnamed" = some (some (.ref f22))) (l22 : K.lookup f22 = some ⟨oc22, od22, .func (PySem.W.fnOf "_law_unnamed" "_law_unnamed" (defArgs s__law_unnamed) (defBody s__law_unnamed) (defScope s__law_unnamed) .none kV22 dc22 pm22 an22 cd22 ct22), fs22⟩) (c22 : PySem.W.codeIn K cd22 "_law_unnamed" = true) (k22 : PySem.W.keepIn K (.ref f22) = true)
    (a23 : PySem.W.nsIn K mainGlobals "_law_stays" = some (some (.ref f23))) (l23 : K.lookup f23 = some ⟨oc23, od23, .func (PySem.W.fnOf "_law_stays" "_law_stays" (defArgs s__law_stays) (defBody s__law_stays) (defScope s__law_stays) .none kV23 dc23 pm23 an23 cd23 ct23), fs23⟩) (c23 : PySem.W.codeIn K cd23 "_law_stays" = true) (k23 : PySem.W.keepIn K (.ref f23) = true)
    (a24 : PySem.W.nsIn K mainGlobals "_law_left" = some (some (.ref f24))) (l24 : K.lookup f24 = some ⟨oc24, od24, .func (PySem.W.fnOf "_law_left" "_law_left" (defArgs s__law_left) (defBody s__law_left) (defScope s__law_left) .none kV24 dc24 pm24 an24 cd24 ct24), fs24⟩) (c24 : PySem.W.codeIn K cd24 "_law_left" = true) (k24 : PySem.W.keepIn K (.ref f24) = true)
    (a25 : PySem.W.nsIn K mainGlobals "_law_moved" = some (some (.ref f25))) (l25 : K.lookup f25 = some ⟨oc25, od25, .func (PySem.W.fnOf "_law_moved" "_law_moved" (defArgs s__law_moved) (defBody s__law_moved) (defScope s__law_moved) .none kV25 dc25 pm25 an25 cd25 ct25), fs25⟩) (c25 : PySem.W.codeIn K cd25 "_law_moved" = true) (k25 : PySem.W.keepIn K (.ref f25) = true)
    (a26 : PySem.W.nsIn K mainGlobals "_law_gone" = some (some (.ref f26))) (l26 : K.lookup f26 = some ⟨oc26, od26, .func (PySem.W.fnOf "_law_gone" "_law_gone" (defArgs s__law_gone) (defBody s__law_gone) (defScope s__law_gone) .none kV26 dc26 pm26 an26 cd26 ct26), fs26⟩) (c26 : PySem.W.codeIn K cd26 "_law_gone" = true) (k26 : PySem.W.keepIn K (.ref f26) = true)
    (a27 : PySem.W.nsIn K mainGlobals "law" = some (some (.ref f27))) (l27 : K.lookup f27 = some ⟨oc27, od27, .func (PySem.W.fnOf "law" "law" (defArgs s_law) (defBody s_law) (defScope s_law) .none kV27 dc27 pm27 an27 cd27 ct27), fs27⟩) (c27 : PySem.W.codeIn K cd27 "law" = true) (k27 : PySem.W.keepIn K (.ref f27) = true)
    (y_enumerate : PySem.W.nsIn K mainGlobals "enumerate" = some none)
    (y_len : PySem.W.nsIn K mainGlobals "len" = some none)
    (y_range : PySem.W.nsIn K mainGlobals "range" = some none)
    (y_tuple : PySem.W.nsIn K mainGlobals "tuple" = some none)
    (y_int : PySem.W.nsIn K mainGlobals "int" = some none)
    (y_abs : PySem.W.nsIn K mainGlobals "abs" = some none)
    (y_list : PySem.W.nsIn K mainGlobals "list" = some none)
    (y_isinstance : PySem.W.nsIn K mainGlobals "isinstance" = some none)
    (y_bool : PySem.W.nsIn K mainGlobals "bool" = some none)
    (y_max : PySem.W.nsIn K mainGlobals "max" = some none)
    (y_str : PySem.W.nsIn K mainGlobals "str" = some none)
    (y_sum : PySem.W.nsIn K mainGlobals "sum" = some none)
    : ∃ fd : FuncData, (∀ (s : Shared) (v : Value), BindsTo s fd ⟨[v], []⟩ [("script", v)]) ∧ ∀ base : Heap, K.In base → base.Ns mainGlobals mg → FnOk l.prog w K mg base (L2.CX l.prog w) 15 fa fd ["script"] (spLaw K) := by
  have e := hfa.symm.trans (PySem.W.mg_of X G a27)
  cases e
  have F0 := fun_mk (st := s_word_names) l0 c0 k0
  have m0 := PySem.W.mg_of X G a0
  have b0 := F0.binds (ps := ["machine"]) fun _ _ _ _ _ _ us hl => match us, hl with | [_], _ => rfl
  have F1 := fun_mk (st := s_left_words) l1 c1 k1
  have m1 := PySem.W.mg_of X G a1
  have b1 := F1.binds (ps := ["words", "number", "part", "names"]) fun _ _ _ _ _ _ us hl => match us, hl with | [_, _, _, _], _ => rfl
  have F2 := fun_mk (st := s_drop_words) l2 c2 k2
  have m2 := PySem.W.mg_of X G a2
  have b2 := F2.binds (ps := ["machine", "names"]) fun _ _ _ _ _ _ us hl => match us, hl with | [_, _], _ => rfl
  have F3 := fun_mk (st := s__law_begin) l3 c3 k3
  have m3 := PySem.W.mg_of X G a3
  have b3 := F3.binds (ps := ["script"]) fun _ _ _ _ _ _ us hl => match us, hl with | [_], _ => rfl
  have F4 := fun_mk (st := s__law_draw) l4 c4 k4
  have m4 := PySem.W.mg_of X G a4
  have b4 := F4.binds (ps := ["d", "many"]) fun _ _ _ _ _ _ us hl => match us, hl with | [_, _], _ => rfl
  have F5 := fun_mk (st := s__law_pick) l5 c5 k5
  have m5 := PySem.W.mg_of X G a5
  have b5 := F5.binds (ps := ["d", "row"]) fun _ _ _ _ _ _ us hl => match us, hl with | [_, _], _ => rfl
  have F6 := fun_mk (st := s__law_pop) l6 c6 k6
  have m6 := PySem.W.mg_of X G a6
  have b6 := F6.binds (ps := ["d", "row"]) fun _ _ _ _ _ _ us hl => match us, hl with | [_, _], _ => rfl
  have F7 := fun_mk (st := s__law_rare) l7 c7 k7
  have m7 := PySem.W.mg_of X G a7
  have b7 := F7.binds (ps := ["d", "many"]) fun _ _ _ _ _ _ us hl => match us, hl with | [_, _], _ => rfl
  have F8 := fun_mk (st := s__law_shuffled) l8 c8 k8
  have m8 := PySem.W.mg_of X G a8
  have b8 := F8.binds (ps := ["d", "row"]) fun _ _ _ _ _ _ us hl => match us, hl with | [_, _], _ => rfl
  have F9 := fun_mk (st := s__law_some) l9 c9 k9
  have m9 := PySem.W.mg_of X G a9
  have b9 := F9.binds (ps := ["d", "row"]) fun _ _ _ _ _ _ us hl => match us, hl with | [_, _], _ => rfl
  have F10 := fun_mk (st := s__law_pool) l10 c10 k10
  have m10 := PySem.W.mg_of X G a10
  have b10 := F10.binds (ps := []) fun _ _ _ _ _ _ us hl => match us, hl with | [], _ => rfl
  have F11 := fun_mk (st := s__law_is_int) l11 c11 k11
  have m11 := PySem.W.mg_of X G a11
  have b11 := F11.binds (ps := ["thing"]) fun _ _ _ _ _ _ us hl => match us, hl with | [_], _ => rfl
  have F12 := fun_mk (st := s__law_letters) l12 c12 k12
  have m12 := PySem.W.mg_of X G a12
  have b12 := F12.binds (ps := ["d", "most"]) fun _ _ _ _ _ _ us hl => match us, hl with | [_, _], _ => rfl
  have F13 := fun_mk (st := s__law_labels) l13 c13 k13
  have m13 := PySem.W.mg_of X G a13
  have b13 := F13.binds (ps := []) fun _ _ _ _ _ _ us hl => match us, hl with | [], _ => rfl
  have F14 := fun_mk (st := s__law_sieve) l14 c14 k14
  have m14 := PySem.W.mg_of X G a14
  have b14 := F14.binds (ps := ["d", "letters"]) fun _ _ _ _ _ _ us hl => match us, hl with | [_, _], _ => rfl
  have F15 := fun_mk (st := s__law_filter_for) l15 c15 k15
  have m15 := PySem.W.mg_of X G a15
  have b15 := F15.binds (ps := ["d", "letters", "label", "first"]) fun _ _ _ _ _ _ us hl => match us, hl with | [_, _, _, _], _ => rfl
  have F16 := fun_mk (st := s__law_word) l16 c16 k16
  have m16 := PySem.W.mg_of X G a16
  have b16 := F16.binds (ps := ["d", "letters", "most"]) fun _ _ _ _ _ _ us hl => match us, hl with | [_, _, _], _ => rfl
  have F17 := fun_mk (st := s__law_words) l17 c17 k17
  have m17 := PySem.W.mg_of X G a17
  have b17 := F17.binds (ps := ["d", "letters", "count", "most"]) fun _ _ _ _ _ _ us hl => match us, hl with | [_, _, _, _], _ => rfl
  have F18 := fun_mk (st := s__law_same) l18 c18 k18
  have m18 := PySem.W.mg_of X G a18
  have b18 := F18.binds (ps := ["told", "due"]) fun _ _ _ _ _ _ us hl => match us, hl with | [_, _], _ => rfl
  have F19 := fun_mk (st := s__law_listed) l19 c19 k19
  have m19 := PySem.W.mg_of X G a19
  have b19 := F19.binds (ps := ["d", "letters", "pool", "count", "left"]) fun _ _ _ _ _ _ us hl => match us, hl with | [_, _, _, _, _], _ => rfl
  have F20 := fun_mk (st := s__law_broad) l20 c20 k20
  have m20 := PySem.W.mg_of X G a20
  have b20 := F20.binds (ps := ["d"]) fun _ _ _ _ _ _ us hl => match us, hl with | [_], _ => rfl
  have F21 := fun_mk (st := s__law_named) l21 c21 k21
  have m21 := PySem.W.mg_of X G a21
  have b21 := F21.binds (ps := ["machine"]) fun _ _ _ _ _ _ us hl => match us, hl with | [_], _ => rfl
  have F22 := fun_mk (st := s__law_unnamed) l22 c22 k22
  have m22 := PySem.W.mg_of X G a22
  have b22 := F22.binds (ps := ["machine", "number", "part", "gone"]) fun _ _ _ _ _ _ us hl => match us, hl with | [_, _, _, _], _ => rfl
  have F23 := fun_mk (st := s__law_stays) l23 c23 k23
  have m23 := PySem.W.mg_of X G a23
  have b23 := F23.binds (ps := ["machine", "number", "gone"]) fun _ _ _ _ _ _ us hl => match us, hl with | [_, _, _], _ => rfl
  have F24 := fun_mk (st := s__law_left) l24 c24 k24
  have m24 := PySem.W.mg_of X G a24
  have b24 := F24.binds (ps := ["machine", "gone"]) fun _ _ _ _ _ _ us hl => match us, hl with | [_, _], _ => rfl
  have F25 := fun_mk (st := s__law_moved) l25 c25 k25
  have m25 := PySem.W.mg_of X G a25
  have b25 := F25.binds (ps := ["machine", "gone", "name"]) fun _ _ _ _ _ _ us hl => match us, hl with | [_, _, _], _ => rfl
  have F26 := fun_mk (st := s__law_gone) l26 c26 k26
  have m26 := PySem.W.mg_of X G a26
  have b26 := F26.binds (ps := ["d", "machine"]) fun _ _ _ _ _ _ us hl => match us, hl with | [_, _], _ => rfl
  have F27 := fun_mk (st := s_law) l27 c27 k27
  have m27 := PySem.W.mg_of X G a27
  have b27 := F27.binds (ps := ["script"]) fun _ _ _ _ _ _ us hl => match us, hl with | [_], _ => rfl
  have m_enumerate := PySem.W.mg_none_of X G y_enumerate
  have m_len := PySem.W.mg_none_of X G y_len
  have m_range := PySem.W.mg_none_of X G y_range
  have m_tuple := PySem.W.mg_none_of X G y_tuple
  have m_int := PySem.W.mg_none_of X G y_int
  have m_abs := PySem.W.mg_none_of X G y_abs
  have m_list := PySem.W.mg_none_of X G y_list
  have m_isinstance := PySem.W.mg_none_of X G y_isinstance
  have m_bool := PySem.W.mg_none_of X G y_bool
  have m_max := PySem.W.mg_none_of X G y_max
  have m_str := PySem.W.mg_none_of X G y_str
  have m_sum := PySem.W.mg_none_of X G y_sum
  refine ⟨PySem.W.fnOf "law" "law" (defArgs s_law) (defBody s_law) (defScope s_law) .none kV27 dc27 pm27 an27 cd27 ct27, fun s v => .of_eq rfl, fun base _ _ => ?_⟩
  have I0 := i_word_names (P := l.prog) (w := w) (K := K) (mg := mg) (base := base) (k := 0) m_enumerate m_len m_range m_tuple (by decide) F0 m0 b0
  have I1 := i_left_words (P := l.prog) (w := w) (K := K) (mg := mg) (base := base) (k := 0) m_enumerate m_tuple (by decide) F1 m1 b1
  have I2 := i_drop_words (P := l.prog) (w := w) (K := K) (mg := mg) (base := base) (k := 1) I1 m_enumerate m_len m_tuple (by decide) F2 m2 b2
  have I3 := i__law_begin (P := l.prog) (w := w) (K := K) (mg := mg) (base := base) (k := 0) m_int F3
  have I4 := i__law_draw (P := l.prog) (w := w) (K := K) (mg := mg) (base := base) (k := 0) m_int m_len m_abs (by decide) F4 m4 b4
  have I5 := i__law_pick (P := l.prog) (w := w) (K := K) (mg := mg) (base := base) (k := 1) I4 m_len (by decide) F5 m5 b5
  have I6 := i__law_pop (P := l.prog) (w := w) (K := K) (mg := mg) (base := base) (k := 1) I4 m_len (by decide) F6 m6 b6
  have I7 := i__law_rare (P := l.prog) (w := w) (K := K) (mg := mg) (base := base) (k := 1) I4 (by decide) F7 m7 b7
  have I8 := i__law_shuffled (P := l.prog) (w := w) (K := K) (mg := mg) (base := base) (k := 1) I4 m_list m_len m_range (by decide) F8 m8 b8
  have I9 := i__law_some (P := l.prog) (w := w) (K := K) (mg := mg) (base := base) (k := 1) I4 m_len (by decide) F9 m9 b9
  have I10 := i__law_pool (P := l.prog) (w := w) (K := K) (mg := mg) (base := base) (k := 0)  (by decide) F10 m10 b10
  have I11 := i__law_is_int (P := l.prog) (w := w) (K := K) (mg := mg) (base := base) (k := 0) m_isinstance m_bool m_int (by decide) F11 m11 b11
  have I12 := i__law_letters (P := l.prog) (w := w) (K := K) (mg := mg) (base := base) (k := 2) I10 I4 I5 I8 I6 m_max m_range m_tuple (by decide) F12 m12 b12
  have I13 := i__law_labels (P := l.prog) (w := w) (K := K) (mg := mg) (base := base) (k := 0)  (by decide) F13 m13 b13
  have I14 := i__law_sieve (P := l.prog) (w := w) (K := K) (mg := mg) (base := base) (k := 2) I4 I9 m_tuple (by decide) F14 m14 b14
  have I15 := i__law_filter_for (P := l.prog) (w := w) (K := K) (mg := mg) (base := base) (k := 3) I4 I14 m_tuple m_len (by decide) F15 m15 b15
  have I16 := i__law_word (P := l.prog) (w := w) (K := K) (mg := mg) (base := base) (k := 4) I4 I5 I13 I15 m_range m_tuple (by decide) F16 m16 b16
  have I17 := i__law_words (P := l.prog) (w := w) (K := K) (mg := mg) (base := base) (k := 5) I16 m_range (by decide) F17 m17 b17
  have I18 := i__law_same (P := l.prog) (w := w) (K := K) (mg := mg) (base := base) (k := 13) I11 m_isinstance m_tuple m_len m_range m_str (by decide) F18 m18 b18
  have I19 := i__law_listed (P := l.prog) (w := w) (K := K) (mg := mg) (base := base) (k := 5) I5 I4 I16 m_range m_len m_tuple (by decide) F19 m19 b19
  have I20 := i__law_broad (P := l.prog) (w := w) (K := K) (mg := mg) (base := base) (k := 6) I12 I7 I17 I8 I4 I19 I5 m_len m_sum m_tuple (by decide) F20 m20 b20
  have I21 := i__law_named (P := l.prog) (w := w) (K := K) (mg := mg) (base := base) (k := 0) m_len m_range (by decide) F21 m21 b21
  have I22 := i__law_unnamed (P := l.prog) (w := w) (K := K) (mg := mg) (base := base) (k := 0) m_len m_range (by decide) F22 m22 b22
  have I23 := i__law_stays (P := l.prog) (w := w) (K := K) (mg := mg) (base := base) (k := 1) I22 m_len (by decide) F23 m23 b23
  have I24 := i__law_left (P := l.prog) (w := w) (K := K) (mg := mg) (base := base) (k := 2) I23 I22 m_len m_range m_tuple (by decide) F24 m24 b24
  have I25 := i__law_moved (P := l.prog) (w := w) (K := K) (mg := mg) (base := base) (k := 2) I23 m_range m_len (by decide) F25 m25 b25
  have I26 := i__law_gone (P := l.prog) (w := w) (K := K) (mg := mg) (base := base) (k := 2) I21 I4 I5 m_len (by decide) F26 m26 b26
  exact i_law (P := l.prog) (w := w) (K := K) (mg := mg) (base := base) (k := 14) I20 I18 I0 I21 I2 I26 I24 I8 I25 m_tuple (by decide) F27 I3 m3 k3 b3 (law_ok law_true)
end UA
open PySem PySem.W PyProof.Rows
set_option maxRecDepth 100000 in
set_option maxHeartbeats 0 in
set_option pp.maxSteps 60 in
set_option pp.deepTerms false in
theorem PySem.Challenge.cw_ringsbelow_k07_words_dropped_holds : PySem.Challenge.rw_ringsbelow_k07_words_dropped.Holds := by
  w_on; o_law; k_head; (case hw => w_witness2)
  k_fill
  refine L2.walk_of (l := PySem.Challenge.rw_ringsbelow_k07_words_dropped) (n := 63) (k := 15) (x := "script") (CX := fun w => L2.CX PySem.Challenge.rw_ringsbelow_k07_words_dropped.prog w) (sp := fun w => DL.spLaw _) rfl (by decide) rfl ⟨rfl, by decide, by decide⟩ (fun w h Y => PySem.W.kIn_of Y) ?F (fun _ _ a ns hl _ hS => ⟨a, ns, rfl, hS, hl, fun _ => rfl⟩) (fun _ _ _ _ _ z => by
    obtain ⟨_, _, _, _, _, _, _, _, _, _, _, _, z⟩ := z
    exact z)
  case F =>
    intro w mg fa h KX G hmg
    refine' UA.all_mk KX G hmg ?a0 ?l0 ?c0 ?k0 ?a1 ?l1 ?c1 ?k1 ?a2 ?l2 ?c2 ?k2 ?a3 ?l3 ?c3 ?k3 ?a4 ?l4 ?c4 ?k4 ?a5 ?l5 ?c5 ?k5 ?a6 ?l6 ?c6 ?k6 ?a7 ?l7 ?c7 ?k7 ?a8 ?l8 ?c8 ?k8 ?a9 ?l9 ?c9 ?k9 ?a10 ?l10 ?c10 ?k10 ?a11 ?l11 ?c11 ?k11 ?a12 ?l12 ?c12 ?k12 ?a13 ?l13 ?c13 ?k13 ?a14 ?l14 ?c14 ?k14 ?a15 ?l15 ?c15 ?k15 ?a16 ?l16 ?c16 ?k16 ?a17 ?l17 ?c17 ?k17 ?a18 ?l18 ?c18 ?k18 ?a19 ?l19 ?c19 ?k19 ?a20 ?l20 ?c20 ?k20 ?a21 ?l21 ?c21 ?k21 ?a22 ?l22 ?c22 ?k22 ?a23 ?l23 ?c23 ?k23 ?a24 ?l24 ?c24 ?k24 ?a25 ?l25 ?c25 ?k25 ?a26 ?l26 ?c26 ?k26 ?a27 ?l27 ?c27 ?k27 ?y_enumerate ?y_len ?y_range ?y_tuple ?y_int ?y_abs ?y_list ?y_isinstance ?y_bool ?y_max ?y_str ?y_sum
    (case a0 => k_is)
    (case l0 => k_is)
    (case c0 => k_is)
    (case k0 => k_is)
    (case a1 => k_is)
    (case l1 => k_is)
    (case c1 => k_is)
    (case k1 => k_is)
    (case a2 => k_is)
    (case l2 => k_is)
    (case c2 => k_is)
    (case k2 => k_is)
    (case a3 => k_is)
    (case l3 => k_is)
    (case c3 => k_is)
    (case k3 => k_is)
    (case a4 => k_is)
    (case l4 => k_is)
    (case c4 => k_is)
    (case k4 => k_is)
    (case a5 => k_is)
    (case l5 => k_is)
    (case c5 => k_is)
    (case k5 => k_is)
    (case a6 => k_is)
    (case l6 => k_is)
    (case c6 => k_is)
    (case k6 => k_is)
    (case a7 => k_is)
    (case l7 => k_is)
    (case c7 => k_is)
    (case k7 => k_is)
    (case a8 => k_is)
    (case l8 => k_is)
    (case c8 => k_is)
    (case k8 => k_is)
    (case a9 => k_is)
    (case l9 => k_is)
    (case c9 => k_is)
    (case k9 => k_is)
    (case a10 => k_is)
    (case l10 => k_is)
    (case c10 => k_is)
    (case k10 => k_is)
    (case a11 => k_is)
    (case l11 => k_is)
    (case c11 => k_is)
    (case k11 => k_is)
    (case a12 => k_is)
    (case l12 => k_is)
    (case c12 => k_is)
    (case k12 => k_is)
    (case a13 => k_is)
    (case l13 => k_is)
    (case c13 => k_is)
    (case k13 => k_is)
    (case a14 => k_is)
    (case l14 => k_is)
    (case c14 => k_is)
    (case k14 => k_is)
    (case a15 => k_is)
    (case l15 => k_is)
    (case c15 => k_is)
    (case k15 => k_is)
    (case a16 => k_is)
    (case l16 => k_is)
    (case c16 => k_is)
    (case k16 => k_is)
    (case a17 => k_is)
    (case l17 => k_is)
    (case c17 => k_is)
    (case k17 => k_is)
    (case a18 => k_is)
    (case l18 => k_is)
    (case c18 => k_is)
    (case k18 => k_is)
    (case a19 => k_is)
    (case l19 => k_is)
    (case c19 => k_is)
    (case k19 => k_is)
    (case a20 => k_is)
    (case l20 => k_is)
    (case c20 => k_is)
    (case k20 => k_is)
    (case a21 => k_is)
    (case l21 => k_is)
    (case c21 => k_is)
    (case k21 => k_is)
    (case a22 => k_is)
    (case l22 => k_is)
    (case c22 => k_is)
    (case k22 => k_is)
    (case a23 => k_is)
    (case l23 => k_is)
    (case c23 => k_is)
    (case k23 => k_is)
    (case a24 => k_is)
    (case l24 => k_is)
    (case c24 => k_is)
    (case k24 => k_is)
    (case a25 => k_is)
    (case l25 => k_is)
    (case c25 => k_is)
    (case k25 => k_is)
    (case a26 => k_is)
    (case l26 => k_is)
    (case c26 => k_is)
    (case k26 => k_is)
    (case a27 => k_is)
    (case l27 => k_is)
    (case c27 => k_is)
    (case k27 => k_is)
    (case y_enumerate => k_is)
    (case y_len => k_is)
    (case y_range => k_is)
    (case y_tuple => k_is)
    (case y_int => k_is)
    (case y_abs => k_is)
    (case y_list => k_is)
    (case y_isinstance => k_is)
    (case y_bool => k_is)
    (case y_max => k_is)
    (case y_str => k_is)
    (case y_sum => k_is)
