import PyProof.Rows.All
import Wide.All
import OpenK.AllK
import Wide.FinOn
import HandS.ForMost
import HandS.TupAny
import HandS.TupMul
import HandS.Wide
import HandS.Star
import HandS.Style
import HandS.Flow
import HandS.IsInst
import PyProof.ReprRoads
import PyProof.Rows.FactsT3
import PyProof.Rows.SeqGen
import PyProof.Rows.SeqCalls
import HandS.Text
import HandS.RaiseMore
import HandS.Defaults
import PyProof.StrOps2
import PyProof.ListMulRoad
import PyProof.FactsAll.tuple_2
import HandS.Deep
import HandS.Iter
import PyProof.P3In
import KE.GoesMore
import KE.GoesEnum
import HandS.Set
import HandS.Strs
import HandS.SetKeys
import KE.SortData
import HandS.Zip
import HandS.HeadHook2
import HandS.Codes
import HandS.Ends
import HandS.HeadEnd
import PyProof.ReprLen
import KE.KStateDown
import HandS.Head0
import HandS.Head1
import HandS.Head2
import HandS.HeadHook1
import Lean
import PySem.Challenge.RW_roundterm_k02_rows_at_paths_and_reached

section
set_option Elab.async false
set_option linter.all false
set_option maxRecDepth 10000
/-! A reflective layer: values of a small pure language (W), and how they lie in the tracked heap (WR, EnvR, MS). -/
namespace Rf
open PySem PySem.Spec PyProof.Rows L2

/-- a set of addresses -/
abbrev AS := Addr → Prop

mutual
/-- v stands for the datum d, and nothing within it is a list of the set A -/
inductive Dq (K : PySem.W.Frag) (A : AS) (H : Hp) : V → PyData → Prop
  | non : Dq K A H .non .none
  | bl (b : Bool) : Dq K A H (.bl b) (.bool b)
  | int (i : Int) : Dq K A H (.int i) (.int i)
  | str (x : Str) : Dq K A H (.str x) (.str x)
  | lst {a : Addr} {xs : List V} {ds : List PyData} : H a = some (.lst xs) → ¬ A a → DqAll K A H xs ds → Dq K A H (.ref a) (.list ds)
  | tup {a : Addr} {xs : List V} {ds : List PyData} : SqT K H a xs → DqAll K A H xs ds → Dq K A H (.ref a) (.tuple ds)
inductive DqAll (K : PySem.W.Frag) (A : AS) (H : Hp) : List V → List PyData → Prop
  | nil : DqAll K A H [] []
  | cons {v : V} {vs : List V} {d : PyData} {ds : List PyData} : Dq K A H v d → DqAll K A H vs ds → DqAll K A H (v :: vs) (d :: ds)
end

/-- what a step leaves: all but Z; tuples and frozen things for ever -/
structure Stp (Z : AS) (H H' : Hp) : Prop where
  fr : ∀ b o, ¬ Z b → H b = some o → H' b = some o
  tups : ∀ b xs, H b = some (.tup xs) → H' b = some (.tup xs)
  frzs : ∀ b o u, H b = some (.frz o u) → H' b = some (.frz o u)

theorem Stp.refl {Z : AS} {H : Hp} : Stp Z H H := ⟨fun _ _ _ h => h, fun _ _ h => h, fun _ _ _ h => h⟩
theorem Stp.there {Z : AS} {H H' : Hp} (s : Stp Z H H') {b : Addr} (hz : ¬ Z b) (h : H b ≠ none) : H' b = H b := by
  cases e : H b with
  | none => exact absurd e h
  | some o => exact s.fr b o hz e
theorem Stp.trans {Z Z1 Z2 : AS} {H H1 H2 : Hp} (a : Stp Z1 H H1) (b : Stp Z2 H1 H2) (h1 : ∀ x, Z1 x → Z x) (h2 : ∀ x, Z2 x → Z x ∨ H x = none) : Stp Z H H2 := by
  refine ⟨fun x o hz e => ?_, fun x xs e => b.tups _ _ (a.tups _ _ e), fun x o u e => b.frzs _ _ _ (a.frzs _ _ _ e)⟩
  refine b.fr x o (fun q => ?_) (a.fr x o (fun q => hz (h1 x q)) e)
  rcases h2 x q with q | q
  · exact hz q
  · rw [e] at q; cases q
theorem Stp.mono {Z Z' : AS} {H H' : Hp} (a : Stp Z H H') (h : ∀ x, Z x → Z' x ∨ H x = none) : Stp Z' H H' := by
  refine ⟨fun x o hz e => a.fr x o (fun q => ?_) e, a.tups, a.frzs⟩
  rcases h x q with q | q
  · exact hz q
  · rw [e] at q; cases q
theorem Stp.laid {Z : AS} {H : Hp} {p : Addr} {o : HO} (h : H p = none) : Stp Z H (upd H p o) := by
  have key : ∀ b u, H b = some u → upd H p o b = some u := fun b u e => by rw [upd_ne (ne_of_none e h)]; exact e
  exact ⟨fun b u _ e => key b u e, fun b xs e => key b _ e, fun b _ _ e => key b _ e⟩
/-- a list, a dict, a set, an instance is written -/
theorem Stp.wrote {Z : AS} {H : Hp} {p : Addr} {o u : HO} (hz : Z p) (h : H p = some u) (ht : ∀ xs, u ≠ .tup xs) (hf : ∀ x y, u ≠ .frz x y) : Stp Z H (upd H p o) := by
  have ne : ∀ b v, H b = some v → v ≠ u → upd H p o b = some v := fun b v e n => by
    rw [upd_ne]
    · exact e
    · rintro rfl; rw [h] at e; cases e; exact n rfl
  refine ⟨fun b v hb e => ?_, fun b xs e => ne b _ e (fun q => ht xs q.symm), fun b x y e => ne b _ e (fun q => hf x y q.symm)⟩
  rw [upd_ne]
  · exact e
  · rintro rfl; exact hb hz

section
variable {K : PySem.W.Frag}
theorem sqT_step {Z : AS} {H H' : Hp} {a : Addr} {xs : List V} (s : Stp Z H H') (h : SqT K H a xs) : SqT K H' a xs := by
  rcases h with (h | ⟨o, h⟩) | h
  · exact .inl (.inl (s.tups _ _ h))
  · exact .inl (.inr ⟨o, s.frzs _ _ _ h⟩)
  · exact .inr h
theorem rd_step {Z : AS} {H H' : Hp} {a : Addr} {xs : List V} (s : Stp Z H H') (hz : ¬ Z a) (h : Rd H a (.lst xs)) : Rd H' a (.lst xs) := by
  rcases h with h | ⟨o, h⟩
  · exact .inl (s.fr _ _ hz h)
  · exact .inr ⟨o, s.frzs _ _ _ h⟩
theorem rd_there {H : Hp} {a : Addr} {o : HO} (h : Rd H a o) : H a ≠ none := by
  rcases h with h | ⟨x, h⟩ <;> (rw [h]; intro q; cases q)

mutual
theorem Dq.step {A A' Z : AS} {H H' : Hp} (s : Stp Z H H') (hz : ∀ b, Z b → A b) (ha : ∀ b, A' b → A b ∨ H b = none) : ∀ {v : V} {d : PyData}, Dq K A H v d → Dq K A' H' v d
  | _, _, .non => .non
  | _, _, .bl b => .bl b
  | _, _, .int i => .int i
  | _, _, .str x => .str x
  | _, _, .lst h n r => .lst (s.fr _ _ (fun q => n (hz _ q)) h) (fun q => (ha _ q).elim n (rd_there (.inl h))) (DqAll.step s hz ha r)
  | _, _, .tup h r => .tup (sqT_step s h) (DqAll.step s hz ha r)
theorem DqAll.step {A A' Z : AS} {H H' : Hp} (s : Stp Z H H') (hz : ∀ b, Z b → A b) (ha : ∀ b, A' b → A b ∨ H b = none) : ∀ {vs : List V} {ds : List PyData}, DqAll K A H vs ds → DqAll K A' H' vs ds
  | _, _, .nil => .nil
  | _, _, .cons h t => .cons (Dq.step s hz ha h) (DqAll.step s hz ha t)
end
mutual
theorem Dq.dp {A : AS} {H : Hp} : ∀ {v : V} {d : PyData}, Dq K A H v d → Dp K H v d
  | _, _, .non => .non
  | _, _, .bl b => .bl b
  | _, _, .int i => .int i
  | _, _, .str x => .str x
  | _, _, .lst h _ r => .lst (SqL.of h) (DqAll.dp r)
  | _, _, .tup h r => .tup h (DqAll.dp r)
theorem DqAll.dp {A : AS} {H : Hp} : ∀ {vs : List V} {ds : List PyData}, DqAll K A H vs ds → DpAll K H vs ds
  | _, _, .nil => .nil
  | _, _, .cons h t => .cons (Dq.dp h) (DqAll.dp t)
end
theorem Dq.sub {A A' : AS} {H : Hp} {v : V} {d : PyData} (h : Dq K A H v d) (ha : ∀ b, A' b → A b) : Dq K A' H v d :=
  Dq.step (Z := fun _ => False) Stp.refl (fun _ q => q.elim) (fun b q => .inl (ha b q)) h
theorem DqAll.sub {A A' : AS} {H : Hp} {v : List V} {d : List PyData} (h : DqAll K A H v d) (ha : ∀ b, A' b → A b) : DqAll K A' H v d :=
  DqAll.step (Z := fun _ => False) Stp.refl (fun _ q => q.elim) (fun b q => .inl (ha b q)) h
theorem DqAll.length {A : AS} {H : Hp} : ∀ {vs : List V} {ds : List PyData}, DqAll K A H vs ds → vs.length = ds.length
  | _, _, .nil => rfl
  | _, _, .cons _ t => by simp [DqAll.length t]
theorem DqAll.append {A : AS} {H : Hp} : ∀ {vs ws : List V} {ds es : List PyData}, DqAll K A H vs ds → DqAll K A H ws es → DqAll K A H (vs ++ ws) (ds ++ es)
  | _, _, _, _, .nil, h => h
  | _, _, _, _, .cons h t, r => .cons h (DqAll.append t r)
theorem DqAll.take {A : AS} {H : Hp} : ∀ {vs : List V} {ds : List PyData} (n : Nat), DqAll K A H vs ds → DqAll K A H (vs.take n) (ds.take n)
  | _, _, 0, _ => by simp; exact .nil
  | _, _, _ + 1, .nil => .nil
  | _, _, n + 1, .cons h t => .cons h (DqAll.take n t)
theorem DqAll.drop {A : AS} {H : Hp} : ∀ {vs : List V} {ds : List PyData} (n : Nat), DqAll K A H vs ds → DqAll K A H (vs.drop n) (ds.drop n)
  | _, _, 0, h => h
  | _, _, _ + 1, .nil => .nil
  | _, _, n + 1, .cons _ t => DqAll.drop n t
theorem DqAll.get {A : AS} {H : Hp} : ∀ {vs : List V} {ds : List PyData} {i : Nat} {d : PyData}, DqAll K A H vs ds → ds[i]? = some d → ∃ v, vs[i]? = some v ∧ Dq K A H v d
  | _, _, _, _, .nil, e => by simp at e
  | _, _, 0, _, .cons h _, e => by simp at e; subst e; exact ⟨_, rfl, h⟩
  | _, _, i + 1, _, .cons _ t, e => by simpa using DqAll.get (i := i) t (by simpa using e)
theorem DqAll.set {A : AS} {H : Hp} {v : V} {d : PyData} (h : Dq K A H v d) : ∀ {vs : List V} {ds : List PyData} (i : Nat), DqAll K A H vs ds → DqAll K A H (vs.set i v) (ds.set i d)
  | _, _, _, .nil => .nil
  | _, _, 0, .cons _ t => .cons h t
  | _, _, i + 1, .cons g t => .cons g (DqAll.set h i t)
theorem DqAll.rep {A : AS} {H : Hp} {vs : List V} {ds : List PyData} (h : DqAll K A H vs ds) : ∀ n : Nat, DqAll K A H (List.replicate n vs).flatten (List.replicate n ds).flatten
  | 0 => .nil
  | n + 1 => by rw [List.replicate_succ, List.replicate_succ, List.flatten_cons, List.flatten_cons]; exact h.append (DqAll.rep h n)
theorem DqAll.reverse {A : AS} {H : Hp} : ∀ {vs : List V} {ds : List PyData}, DqAll K A H vs ds → DqAll K A H vs.reverse ds.reverse
  | _, _, .nil => .nil
  | _, _, .cons h t => by rw [List.reverse_cons, List.reverse_cons]; exact (DqAll.reverse t).append (.cons h .nil)
theorem DqAll.erase {A : AS} {H : Hp} : ∀ {vs : List V} {ds : List PyData} (i : Nat), DqAll K A H vs ds → DqAll K A H (vs.eraseIdx i) (ds.eraseIdx i)
  | _, _, _, .nil => .nil
  | _, _, 0, .cons _ t => t
  | _, _, i + 1, .cons g t => .cons g (DqAll.erase i t)
end

/-- what a slot holds: a frozen datum, or a thing that nobody else knows -/
inductive W where
  | d (x : PyData)
  | ol (xs : List PyData)
  | fl (xs : List PyData)
  | od (kvs : List (PyData × PyData))
  | os (xs : List PyData)
  | oi (c : Nat) (fs : List (Str × W))
abbrev St := L2.St
abbrev Env := List (Option W)
/-- what an expression gives: a new thing (or a datum), or a name for what a slot holds -/
inductive R where
  | w (x : W)
  | al (i : Nat) (p : List Str)

/-- how dicts, sets and classes lie (filled in by what follows) -/
structure Ly where
  K : PySem.W.Frag
  cls : Nat → Option Addr
  dic : AS → Hp → Addr → List (PyData × PyData) → Prop
  set : Hp → Addr → List PyData → Prop
  dic_step : ∀ {A A' Z : AS} {H H' : Hp} {a : Addr} {kvs : List (PyData × PyData)}, Stp Z H H' → (∀ b, Z b → A b) → (∀ b, A' b → A b ∨ H b = none) → ¬ Z a → dic A H a kvs → dic A' H' a kvs
  set_step : ∀ {Z : AS} {H H' : Hp} {a : Addr} {xs : List PyData}, Stp Z H H' → ¬ Z a → set H a xs → set H' a xs
  dic_there : ∀ {A : AS} {H : Hp} {a : Addr} {kvs : List (PyData × PyData)}, dic A H a kvs → H a ≠ none
  set_there : ∀ {H : Hp} {a : Addr} {xs : List PyData}, set H a xs → H a ≠ none

/-- a list that is not ours: it is only read -/
def SqF (K : PySem.W.Frag) (H : Hp) (a : Addr) (xs : List V) : Prop := (∃ o, H a = some (.frz o (.lst xs))) ∨ ∀ H', SqL K H' a xs
theorem SqF.sq {K : PySem.W.Frag} {H : Hp} {a : Addr} {xs : List V} (h : SqF K H a xs) : SqL K H a xs := by
  rcases h with ⟨o, h⟩ | h
  · exact .inl (.inr ⟨o, h⟩)
  · exact h H
theorem SqF.step {K : PySem.W.Frag} {Z : AS} {H H' : Hp} {a : Addr} {xs : List V} (s : Stp Z H H') (h : SqF K H a xs) : SqF K H' a xs := by
  rcases h with ⟨o, h⟩ | h
  · exact .inl ⟨o, s.frzs _ _ _ h⟩
  · exact .inr h
mutual
inductive WR (L : Ly) (A : AS) (H : Hp) : W → V → List Addr → Prop
  | d {v : V} {x : PyData} : Dq L.K A H v x → WR L A H (.d x) v []
  | ol {a : Addr} {vs : List V} {xs : List PyData} : H a = some (.lst vs) → DqAll L.K A H vs xs → WR L A H (.ol xs) (.ref a) [a]
  | fl {a : Addr} {vs : List V} {xs : List PyData} : SqF L.K H a vs → DqAll L.K A H vs xs → WR L A H (.fl xs) (.ref a) []
  | od {a : Addr} {kvs : List (PyData × PyData)} : L.dic A H a kvs → WR L A H (.od kvs) (.ref a) [a]
  | os {a : Addr} {xs : List PyData} : L.set H a xs → WR L A H (.os xs) (.ref a) [a]
  | oi {a C dx : Addr} {c : Nat} {rfs : List (Str × V)} {fs : List (Str × W)} {F : List Addr} : H a = some (.ins C dx rfs) → L.cls c = some C → FRs L A H fs rfs F → WR L A H (.oi c fs) (.ref a) (a :: F)
inductive FRs (L : Ly) (A : AS) (H : Hp) : List (Str × W) → List (Str × V) → List Addr → Prop
  | nil : FRs L A H [] [] []
  | cons {f : Str} {w : W} {v : V} {fs : List (Str × W)} {rfs : List (Str × V)} {F G : List Addr} : WR L A H w v F → FRs L A H fs rfs G → FRs L A H ((f, w) :: fs) ((f, v) :: rfs) (F ++ G)
end
inductive EnvR (L : Ly) (A : AS) (H : Hp) : Env → St → List Addr → Prop
  | nil : EnvR L A H [] [] []
  | hol {env : Env} {x : Option V} {σ : St} {F : List Addr} : EnvR L A H env σ F → EnvR L A H (none :: env) (x :: σ) F
  | val {w : W} {v : V} {env : Env} {σ : St} {F G : List Addr} : WR L A H w v F → EnvR L A H env σ G → EnvR L A H (some w :: env) (some v :: σ) (F ++ G)
/-- the field of an instance, followed -/
inductive PathV (H : Hp) : V → List Str → V → Prop
  | nil {v : V} : PathV H v [] v
  | cons {a C dx : Addr} {rfs : List (Str × V)} {f : Str} {p : List Str} {v u : V} : H a = some (.ins C dx rfs) → rfs.lookup f = some v → PathV H v p u → PathV H (.ref a) (f :: p) u
inductive RR (L : Ly) (A : AS) (H : Hp) (σ : St) : R → V → List Addr → Prop
  | w {x : W} {v : V} {T : List Addr} : WR L A H x v T → RR L A H σ (.w x) v T
  | al {i : Nat} {p : List Str} {v u : V} : σ[i]? = some (some v) → PathV H v p u → RR L A H σ (.al i p) u []
inductive RRs (L : Ly) (A : AS) (H : Hp) (σ : St) : List R → List V → List Addr → Prop
  | nil : RRs L A H σ [] [] []
  | cons {rs : List R} {vs : List V} {T U : List Addr} {r : R} {v : V} : RR L A H σ r v T → RRs L A H σ rs vs U → RRs L A H σ (r :: rs) (v :: vs) (T ++ U)

section
variable {L : Ly} {A A' Z : AS} {H H' : Hp}
mutual
theorem WR.there : ∀ {w : W} {v : V} {F : List Addr}, WR L A H w v F → ∀ a ∈ F, H a ≠ none
  | _, _, _, .d _, _, h => by cases h
  | _, _, _, .ol e _, a, h => by
    have : a = _ := List.mem_singleton.mp h
    subst this; rw [e]; intro q; cases q
  | _, _, _, .fl _ _, _, h => by cases h
  | _, _, _, .od e, a, h => by
    have : a = _ := List.mem_singleton.mp h
    subst this; exact L.dic_there e
  | _, _, _, .os e, a, h => by
    have : a = _ := List.mem_singleton.mp h
    subst this; exact L.set_there e
  | _, _, _, .oi e _ r, a, h => by
    rcases List.mem_cons.mp h with rfl | h
    · rw [e]; intro q; cases q
    · exact FRs.there r a h
theorem FRs.there : ∀ {fs : List (Str × W)} {rfs : List (Str × V)} {F : List Addr}, FRs L A H fs rfs F → ∀ a ∈ F, H a ≠ none
  | _, _, _, .nil, _, h => by cases h
  | _, _, _, .cons x r, a, h => by
    rcases List.mem_append.mp h with h | h
    · exact WR.there x a h
    · exact FRs.there r a h
end
mutual
theorem WR.step (s : Stp Z H H') (hz : ∀ b, Z b → A b) (ha : ∀ b, A' b → A b ∨ H b = none) : ∀ {w : W} {v : V} {F : List Addr}, WR L A H w v F → (∀ a ∈ F, ¬ Z a) → WR L A' H' w v F
  | _, _, _, .d x, _ => .d (x.step s hz ha)
  | _, _, _, .ol e x, n => .ol (s.fr _ _ (n _ (List.mem_singleton.mpr rfl)) e) (x.step s hz ha)
  | _, _, _, .fl e x, _ => .fl (e.step s) (x.step s hz ha)
  | _, _, _, .od e, n => .od (L.dic_step s hz ha (n _ (List.mem_singleton.mpr rfl)) e)
  | _, _, _, .os e, n => .os (L.set_step s (n _ (List.mem_singleton.mpr rfl)) e)
  | _, _, _, .oi e c r, n => .oi (s.fr _ _ (n _ List.mem_cons_self) e) c (FRs.step s hz ha r fun a h => n a (List.mem_cons_of_mem _ h))
theorem FRs.step (s : Stp Z H H') (hz : ∀ b, Z b → A b) (ha : ∀ b, A' b → A b ∨ H b = none) : ∀ {fs : List (Str × W)} {rfs : List (Str × V)} {F : List Addr}, FRs L A H fs rfs F → (∀ a ∈ F, ¬ Z a) → FRs L A' H' fs rfs F
  | _, _, _, .nil, _ => .nil
  | _, _, _, .cons x r, n => .cons (WR.step s hz ha x fun a h => n a (List.mem_append_left _ h)) (FRs.step s hz ha r fun a h => n a (List.mem_append_right _ h))
end
theorem WR.sub {w : W} {v : V} {F : List Addr} (h : WR L A H w v F) (ha : ∀ b, A' b → A b) : WR L A' H w v F :=
  WR.step (Z := fun _ => False) Stp.refl (fun _ q => q.elim) (fun b q => .inl (ha b q)) h fun _ _ q => q
theorem EnvR.there : ∀ {env : Env} {σ : St} {F : List Addr}, EnvR L A H env σ F → ∀ a ∈ F, H a ≠ none
  | _, _, _, .nil, _, h => by cases h
  | _, _, _, .hol r, a, h => EnvR.there r a h
  | _, _, _, .val x r, a, h => by
    rcases List.mem_append.mp h with h | h
    · exact x.there a h
    · exact EnvR.there r a h
theorem EnvR.step (s : Stp Z H H') (hz : ∀ b, Z b → A b) (ha : ∀ b, A' b → A b ∨ H b = none) : ∀ {env : Env} {σ : St} {F : List Addr}, EnvR L A H env σ F → (∀ a ∈ F, ¬ Z a) → EnvR L A' H' env σ F
  | _, _, _, .nil, _ => .nil
  | _, _, _, .hol r, n => .hol (EnvR.step s hz ha r n)
  | _, _, _, .val x r, n => .val (x.step s hz ha fun a h => n a (List.mem_append_left _ h)) (EnvR.step s hz ha r fun a h => n a (List.mem_append_right _ h))
theorem EnvR.sub {env : Env} {σ : St} {F : List Addr} (h : EnvR L A H env σ F) (ha : ∀ b, A' b → A b) : EnvR L A' H env σ F :=
  EnvR.step (Z := fun _ => False) Stp.refl (fun _ q => q.elim) (fun b q => .inl (ha b q)) h fun _ _ q => q
theorem EnvR.length : ∀ {env : Env} {σ : St} {F : List Addr}, EnvR L A H env σ F → env.length = σ.length
  | _, _, _, .nil => rfl
  | _, _, _, .hol r => by simp [EnvR.length r]
  | _, _, _, .val _ r => by simp [EnvR.length r]
/-- the slot i: its own footprint G, in the middle; what may be put in its place -/
theorem EnvR.get : ∀ {env : Env} {σ : St} {F : List Addr} {i : Nat} {w : W}, EnvR L A H env σ F → env[i]? = some (some w) →
    ∃ v F1 G F2, F = F1 ++ G ++ F2 ∧ σ[i]? = some (some v) ∧ WR L A H w v G ∧
      ∀ (Z : AS) (H' : Hp) (A' : AS), Stp Z H H' → (∀ b, Z b → A b) → (∀ b, A' b → A b ∨ H b = Option.none) → (∀ a, a ∈ F1 ∨ a ∈ F2 → ¬ Z a) →
        (∀ (w' : W) (v' : V) (G' : List Addr), WR L A' H' w' v' G' → EnvR L A' H' (env.set i (some w')) (σ.set i (some v')) (F1 ++ G' ++ F2)) ∧
        ∀ x' : Option V, EnvR L A' H' (env.set i Option.none) (σ.set i x') (F1 ++ F2)
  | _, _, _, _, _, .nil, e => by simp at e
  | _, _, _, 0, _, .hol _, e => by simp at e
  | _, _, _, 0, w, .val (w := w0) (v := v) (F := F) (G := G) x r, e => by
    simp at e; subst e
    refine ⟨v, [], F, G, by simp, rfl, x, fun Z H' A' s hz ha n => ?_⟩
    have r' := r.step s hz ha fun a h => n a (.inr h)
    exact ⟨fun w' v' G' x' => by simpa using EnvR.val x' r', fun x' => by simpa using EnvR.hol (x := x') r'⟩
  | _, _, _, i + 1, w, .hol r, e => by
    obtain ⟨v, F1, G, F2, hF, hσ, x, k⟩ := EnvR.get (i := i) r (by simpa using e)
    refine ⟨v, F1, G, F2, hF, by simpa using hσ, x, fun Z H' A' s hz ha n => ?_⟩
    obtain ⟨k1, k2⟩ := k Z H' A' s hz ha n
    exact ⟨fun w' v' G' x' => by simpa using EnvR.hol (k1 w' v' G' x'), fun x' => by simpa using EnvR.hol (k2 x')⟩
  | _, _, _, i + 1, w, .val (w := w0) (v := v0) (F := F) x0 r, e => by
    obtain ⟨v, F1, G, F2, hF, hσ, x, k⟩ := EnvR.get (i := i) r (by simpa using e)
    refine ⟨v, F ++ F1, G, F2, by rw [hF]; simp, by simpa using hσ, x, fun Z H' A' s hz ha n => ?_⟩
    have x1 := x0.step s hz ha fun a h => n a (.inl (List.mem_append_left _ h))
    obtain ⟨k1, k2⟩ := k Z H' A' s hz ha fun a h => n a (h.elim (fun q => .inl (List.mem_append_right _ q)) .inr)
    exact ⟨fun w' v' G' x' => by simpa using EnvR.val x1 (k1 w' v' G' x'), fun x' => by simpa using EnvR.val x1 (k2 x')⟩
/-- an empty slot, or one that was forgotten, is filled -/
theorem EnvR.put : ∀ {env : Env} {σ : St} {F : List Addr} {i : Nat}, EnvR L A H env σ F → env[i]? = some none → ∀ {w : W} {v : V} {G : List Addr}, WR L A H w v G →
    ∃ F1 F2, F = F1 ++ F2 ∧ EnvR L A H (env.set i (some w)) (σ.set i (some v)) (F1 ++ G ++ F2)
  | _, _, _, _, .nil, e, _, _, _, _ => by simp at e
  | _, _, F, 0, .hol r, _, w, v, G, x => ⟨[], F, by simp, by simpa using EnvR.val x r⟩
  | _, _, _, 0, .val _ _, e, _, _, _, _ => by simp at e
  | _, _, _, i + 1, .hol r, e, w, v, G, x => by
    obtain ⟨F1, F2, hF, q⟩ := EnvR.put (i := i) r (by simpa using e) x
    exact ⟨F1, F2, hF, by simpa using EnvR.hol q⟩
  | _, _, _, i + 1, .val (F := F) y r, e, w, v, G, x => by
    obtain ⟨F1, F2, hF, q⟩ := EnvR.put (i := i) r (by simpa using e) x
    exact ⟨F ++ F1, F2, by rw [hF]; simp, by simpa using EnvR.val y q⟩
theorem PathV.step (s : Stp Z H H') (hz : ∀ b, ¬ Z b) : ∀ {v u : V} {p : List Str}, PathV H v p u → PathV H' v p u
  | _, _, _, .nil => .nil
  | _, _, _, .cons e l r => .cons (s.fr _ _ (hz _) e) l (PathV.step s hz r)
theorem RR.there {σ : St} {r : R} {v : V} {T : List Addr} (h : RR L A H σ r v T) : ∀ a ∈ T, H a ≠ none := by
  cases h with
  | w x => exact x.there
  | al _ _ => intro _ h; cases h
theorem RRs.there {σ : St} : ∀ {rs : List R} {vs : List V} {T : List Addr}, RRs L A H σ rs vs T → ∀ a ∈ T, H a ≠ none
  | _, _, _, .nil, _, h => by cases h
  | _, _, _, .cons x r, a, h => by
    rcases List.mem_append.mp h with h | h
    · exact x.there a h
    · exact RRs.there r a h
theorem RRs.append {σ : St} {ss : List R} {ws : List V} {U : List Addr} (x : RRs L A H σ ss ws U) : ∀ {rs : List R} {vs : List V} {T : List Addr}, RRs L A H σ rs vs T → RRs L A H σ (rs ++ ss) (vs ++ ws) (T ++ U)
  | _, _, _, .nil => x
  | _, _, _, .cons y t => by simpa using RRs.cons y (RRs.append x t)
/-- a name for a field is of use as long as nothing is written -/
def R.plain : R → Bool
  | .al _ (_ :: _) => false
  | _ => true
theorem RR.step {σ : St} {r : R} {v : V} {T : List Addr} (s : Stp Z H H') (hz : ∀ b, Z b → A b) (ha : ∀ b, A' b → A b ∨ H b = none) (x : RR L A H σ r v T) (n : ∀ a ∈ T, ¬ Z a) (p : r.plain = true ∨ ∀ b, ¬ Z b) : RR L A' H' σ r v T := by
  cases x with
  | w x => exact .w (x.step s hz ha n)
  | al e q =>
    refine .al e ?_
    rcases p with p | p
    · cases q with
      | nil => exact .nil
      | cons _ _ _ => cases p
    · exact q.step s p
theorem RRs.step {σ : St} (s : Stp Z H H') (hz : ∀ b, Z b → A b) (ha : ∀ b, A' b → A b ∨ H b = none) : ∀ {rs : List R} {vs : List V} {T : List Addr}, RRs L A H σ rs vs T → (∀ a ∈ T, ¬ Z a) → (rs.all R.plain = true ∨ ∀ b, ¬ Z b) → RRs L A' H' σ rs vs T
  | _, _, _, .nil, _, _ => .nil
  | _, _, _, .cons x t, n, p => .cons (x.step s hz ha (fun a h => n a (List.mem_append_left _ h)) (p.elim (fun q => .inl (by simp at q; exact q.1)) .inr))
      (RRs.step s hz ha t (fun a h => n a (List.mem_append_right _ h)) (p.elim (fun q => .inl (by simp at q ⊢; exact q.2)) .inr))
theorem RRs.sub {σ : St} {rs : List R} {vs : List V} {T : List Addr} (h : RRs L A H σ rs vs T) (ha : ∀ b, A' b → A b) : RRs L A' H σ rs vs T :=
  RRs.step (Z := fun _ => False) Stp.refl (fun _ q => q.elim) (fun b q => .inl (ha b q)) h (fun _ _ q => q) (.inr fun _ q => q)
theorem RR.sub {σ : St} {r : R} {v : V} {T : List Addr} (h : RR L A H σ r v T) (ha : ∀ b, A' b → A b) : RR L A' H σ r v T :=
  RR.step (Z := fun _ => False) Stp.refl (fun _ q => q.elim) (fun b q => .inl (ha b q)) h (fun _ _ q => q) (.inr fun _ q => q)
end
end Rf
end

section
set_option Elab.async false
set_option linter.all false
set_option maxRecDepth 10000
/-! The state of an evaluation: slots, pending results, what is owned. -/
namespace Rf
open PySem PySem.Spec PyProof.Rows L2

abbrev Av (B : AS) (F T : List Addr) : AS := fun a => B a ∨ a ∈ F ∨ a ∈ T

structure MS (L : Ly) (B : AS) (env : Env) (σ : St) (H : Hp) (F : List Addr) (rs : List R) (vs : List V) (T : List Addr) : Prop where
  env : EnvR L (Av B F T) H env σ F
  res : RRs L (Av B F T) H σ rs vs T
  nd : (F ++ T).Nodup
  dj : ∀ a, a ∈ F ∨ a ∈ T → ¬ B a
  al : ∀ b, B b → H b ≠ none

section
variable {L : Ly} {B : AS} {env env' : Env} {σ : St} {H H' : Hp} {F F' T T' : List Addr} {rs : List R} {vs : List V} {r : R} {v : V}
theorem MS.fresh (m : MS L B env σ H F rs vs T) : MS L (fun a => B a ∨ a ∈ T) env σ H F [] [] [] where
  env := m.env.sub fun b h => by rcases h with (h | h) | h | h
                                 · exact .inl h
                                 · exact .inr (.inr h)
                                 · exact .inr (.inl h)
                                 · cases h
  res := .nil
  nd := by simpa using (List.nodup_append.mp m.nd).1
  dj := fun a h q => by
    rcases h with h | h
    · rcases q with q | q
      · exact m.dj a (.inl h) q
      · exact (List.nodup_append.mp m.nd).2.2 a h a q rfl
    · cases h
  al := fun b h => h.elim (m.al b) fun h => m.res.there b h

/-- what an evaluation leaves -/
structure Out (L : Ly) (B : AS) (σ : St) (q : Bool) (H : Hp) (F : List Addr) (rs : List R) (env' : Env) (vs : List V) (H' : Hp) (F' T' : List Addr) : Prop where
  ms : MS L B env' σ H' F' rs vs T'
  st : Stp (fun a => q = false ∧ a ∈ F) H H'
  nw : ∀ a, a ∈ F' ∨ a ∈ T' → a ∈ F ∨ H a = none

theorem RRs.one {A : AS} (h : RRs L A H σ [r] [v] T) : RR L A H σ r v T := by
  cases h with
  | cons x t => cases t; simpa using x

/-- more results -/
theorem MS.next {q : Bool} {ss : List R} {ws : List V} (m : MS L B env σ H F rs vs T) (o : Out L (fun a => B a ∨ a ∈ T) σ q H F ss env' ws H' F' T') (hp : rs.all R.plain = true ∨ q = true) :
    MS L B env' σ H' F' (rs ++ ss) (vs ++ ws) (T ++ T') where
  env := o.ms.env.sub fun b h => by
    rcases h with h | h | h
    · exact .inl (.inl h)
    · exact .inr (.inl h)
    · rcases List.mem_append.mp h with h | h
      · exact .inl (.inr h)
      · exact .inr (.inr h)
  res := by
    have x := o.ms.res.sub (A' := Av B F' (T ++ T')) fun b h => by
      rcases h with h | h | h
      · exact .inl (.inl h)
      · exact .inr (.inl h)
      · rcases List.mem_append.mp h with h | h
        · exact .inl (.inr h)
        · exact .inr (.inr h)
    refine RRs.append x (m.res.step o.st (fun b h => .inr (.inl h.2)) (fun b h => ?_) (fun a h z => ?_) ?_)
    · rcases h with h | h | h
      · exact .inl (.inl h)
      · exact (o.nw b (.inl h)).imp (fun q => .inr (.inl q)) id
      · rcases List.mem_append.mp h with h | h
        · exact .inl (.inr (.inr h))
        · exact (o.nw b (.inr h)).imp (fun q => .inr (.inl q)) id
    · exact (List.nodup_append.mp m.nd).2.2 a z.2 a h rfl
    · exact hp.imp id fun e b h => by rw [e] at h; cases h.1
  nd := by
    have n1 := List.nodup_append.mp o.ms.nd
    have n2 := List.nodup_append.mp m.nd
    refine List.nodup_append.mpr ⟨n1.1, List.nodup_append.mpr ⟨n2.2.1, n1.2.1, fun a ha b hb e => ?_⟩, fun a ha b hb e => ?_⟩
    · subst e; exact o.ms.dj a (.inr hb) (.inr ha)
    · subst e
      rcases List.mem_append.mp hb with hb | hb
      · exact o.ms.dj a (.inl ha) (.inr hb)
      · exact n1.2.2 a ha a hb rfl
  dj := fun a h q => by
    rcases h with h | h
    · exact o.ms.dj a (.inl h) (.inl q)
    · rcases List.mem_append.mp h with h | h
      · exact m.dj a (.inr h) q
      · exact o.ms.dj a (.inr h) (.inl q)
  al := fun b h => o.ms.al b (.inl h)

/-- results are used up, a new one has come; nothing that stood is changed -/
theorem MS.made {w : W} {U : List Addr} (m : MS L B env σ H F rs vs T) (hs : Same H H') (x : WR L (Av B F U) H' w v U) (hn : U.Nodup) (hf : ∀ a ∈ U, H a = none) : MS L B env σ H' F [.w w] [v] U := by
  have s : Stp (fun _ => False) H H' := ⟨fun b o _ e => hs b o e, fun b xs e => hs b _ e, fun b _ _ e => hs b _ e⟩
  refine ⟨m.env.step s (fun _ h => h.elim) (fun b h => ?_) (fun _ _ h => h), by simpa using RRs.cons (RR.w x) RRs.nil, ?_, fun a h q => ?_, fun b h => ?_⟩
  · rcases h with h | h | h
    · exact .inl (.inl h)
    · exact .inl (.inr (.inl h))
    · exact .inr (hf b h)
  · refine List.nodup_append.mpr ⟨(List.nodup_append.mp m.nd).1, hn, fun a ha b hb e => ?_⟩
    subst e
    exact m.env.there a ha (hf a hb)
  · rcases h with h | h
    · exact m.dj a (.inl h) q
    · exact m.al a q (hf a h)
  · rw [s.there (fun h => h) (m.al b h)]
    exact m.al b h
/-- the slots alone -/
theorem MS.bare (m : MS L B env σ H F rs vs T) : MS L B env σ H F [] [] [] where
  env := m.env.sub fun b h => by rcases h with h | h | h
                                 · exact .inl h
                                 · exact .inr (.inl h)
                                 · cases h
  res := .nil
  nd := by simpa using (List.nodup_append.mp m.nd).1
  dj := fun a h q => by
    rcases h with h | h
    · exact m.dj a (.inl h) q
    · cases h
  al := m.al
end

/-! ### results -/
inductive Rs (α : Type) where
  | fail
  | ok (a : α)
def Rs.bind {α β : Type} : Rs α → (α → Rs β) → Rs β
  | .fail, _ => .fail
  | .ok a, f => f a
instance : Monad Rs where
  pure := Rs.ok
  bind := Rs.bind
theorem bind_eq {α β : Type} {x : Rs α} {f : α → Rs β} {b : β} (h : (x >>= f) = .ok b) : ∃ a, x = .ok a ∧ f a = .ok b := by
  cases x with
  | fail => cases h
  | ok a => exact ⟨a, rfl, h⟩
@[simp] theorem ok_bind {α β : Type} (a : α) (f : α → Rs β) : ((Rs.ok a) >>= f) = f a := rfl
@[simp] theorem fail_bind {α β : Type} (f : α → Rs β) : ((Rs.fail : Rs α) >>= f) = .fail := rfl
@[simp] theorem pure_ok {α : Type} (a : α) : (pure a : Rs α) = .ok a := rfl
def Rs.of {α : Type} : Option α → Rs α
  | none => .fail
  | some a => .ok a
@[simp] theorem of_some {α : Type} (a : α) : Rs.of (some a) = .ok a := rfl
@[simp] theorem of_none {α : Type} : Rs.of (none : Option α) = .fail := rfl
theorem of_eq {α : Type} {x : Option α} {a : α} (h : Rs.of x = .ok a) : x = some a := by
  cases x with
  | none => cases h
  | some b => cases h; rfl
/-- a side condition -/
def need (b : Bool) : Rs Unit := if b then .ok () else .fail
@[simp] theorem need_true : need true = .ok () := rfl
@[simp] theorem need_false : need false = .fail := rfl
theorem need_eq {b : Bool} {u : Unit} (h : need b = .ok u) : b = true := by
  cases b with
  | false => cases h
  | true => rfl

/-! ### looking at what is held -/
def W.view : W → Option PyData
  | .d x => some x
  | .ol xs => some (.list xs)
  | _ => none
def W.at : W → List Str → Option W
  | w, [] => some w
  | .oi _ fs, f :: p => (fs.lookup f).bind fun w => W.at w p
  | _, _ :: _ => none
def Env.at (env : Env) (i : Nat) (p : List Str) : Option W := match env[i]? with
  | some (some w) => W.at w p
  | _ => none
def R.view (env : Env) : R → Option PyData
  | .w x => x.view
  | .al i p => (Env.at env i p).bind W.view
/-- seen, though it may be owned -/
inductive DV (K : PySem.W.Frag) (A : AS) (H : Hp) : V → PyData → Prop
  | q {v : V} {d : PyData} : Dq K A H v d → DV K A H v d
  | l {a : Addr} {vs : List V} {xs : List PyData} : H a = some (.lst vs) → DqAll K A H vs xs → DV K A H (.ref a) (.list xs)
section
variable {L : Ly} {A : AS} {B : AS} {env env' : Env} {σ : St} {H H' : Hp} {F F' T T' : List Addr} {rs : List R} {vs : List V} {r : R} {v : V}
theorem DV.dp {v : V} {d : PyData} (h : DV L.K A H v d) : Dp L.K H v d := by
  cases h with
  | q h => exact h.dp
  | l e r => exact .lst (SqL.of e) r.dp
/-- a list that is seen, and its items -/
theorem DV.list {v : V} {xs : List PyData} (h : DV L.K A H v (.list xs)) : ∃ a vs, v = .ref a ∧ H a = some (.lst vs) ∧ DqAll L.K A H vs xs := by
  cases h with
  | q h =>
    cases h with
    | lst e _ r => exact ⟨_, _, rfl, e, r⟩
  | l e r => exact ⟨_, _, rfl, e, r⟩
theorem DV.tup {v : V} {xs : List PyData} (h : DV L.K A H v (.tuple xs)) : ∃ a vs, v = .ref a ∧ SqT L.K H a vs ∧ DqAll L.K A H vs xs := by
  cases h with
  | q h =>
    cases h with
    | tup e r => exact ⟨_, _, rfl, e, r⟩
theorem DV.int {v : V} {i : Int} (h : DV L.K A H v (.int i)) : v = .int i := by
  cases h with
  | q h => cases h; rfl
theorem DV.str {v : V} {x : Str} (h : DV L.K A H v (.str x)) : v = .str x := by
  cases h with
  | q h => cases h; rfl
theorem DV.bl {v : V} {b : Bool} (h : DV L.K A H v (.bool b)) : v = .bl b := by
  cases h with
  | q h => cases h; rfl
theorem DV.non {v : V} (h : DV L.K A H v .none) : v = .non := by
  cases h with
  | q h => cases h; rfl
theorem WR.view {w : W} {d : PyData} {F : List Addr} (h : WR L A H w v F) (e : w.view = some d) : DV L.K A H v d := by
  cases h with
  | d x => cases e; exact .q x
  | ol h x => cases e; exact .l h x
  | fl _ _ => cases e
  | od _ => cases e
  | os _ => cases e
  | oi _ _ _ => cases e
theorem FRs.get : ∀ {fs : List (Str × W)} {rfs : List (Str × V)} {F : List Addr} {f : Str} {w : W}, FRs L A H fs rfs F → fs.lookup f = some w → ∃ v G, rfs.lookup f = some v ∧ WR L A H w v G ∧ ∀ a ∈ G, a ∈ F
  | _, _, _, _, _, .nil, e => by cases e
  | _, _, _, f, w, .cons (f := g) (F := F) (G := G) x t, e => by
    rw [List.lookup_cons] at e
    cases hb : f == g with
    | true => rw [hb] at e; cases e; exact ⟨_, F, by rw [List.lookup_cons, hb], x, fun a h => List.mem_append_left _ h⟩
    | false =>
      rw [hb] at e
      obtain ⟨v, G', h1, h2, h3⟩ := FRs.get t e
      exact ⟨v, G', by rw [List.lookup_cons, hb]; exact h1, h2, fun a h => List.mem_append_right _ (h3 a h)⟩
theorem WR.path : ∀ {p : List Str} {w w' : W} {v u : V} {F : List Addr}, WR L A H w v F → W.at w p = some w' → PathV H v p u → ∃ G, WR L A H w' u G ∧ ∀ a ∈ G, a ∈ F
  | [], _, _, _, _, F, x, e, q => by
    cases q
    have e' : some _ = some _ := e
    cases e'
    exact ⟨F, x, fun _ h => h⟩
  | f :: p, w, w', v, u, F, x, e, q => by
    cases q with
    | cons e1 e2 q =>
      cases x with
      | oi h1 h2 h3 =>
        rw [e1] at h1; cases h1
        obtain ⟨w1, hw, e3⟩ := Option.bind_eq_some_iff.mp (show (List.lookup f _).bind _ = some w' from e)
        obtain ⟨v1, G, g1, g2, g3⟩ := h3.get hw
        rw [e2] at g1; cases g1
        obtain ⟨G', y, n⟩ := WR.path g2 e3 q
        exact ⟨G', y, fun a h => List.mem_cons_of_mem _ (g3 a (n a h))⟩
      | d _ => cases e
      | ol _ _ => cases e
      | fl _ _ => cases e
      | od _ => cases e
      | os _ => cases e
theorem EnvR.at {i : Nat} {p : List Str} {w : W} {u : V} (h : EnvR L A H env σ F) (e : Env.at env i p = some w) (hu : RR L A H σ (.al i p) u T) : ∃ G, WR L A H w u G ∧ ∀ a ∈ G, a ∈ F := by
  unfold Env.at at e
  split at e
  · rename_i w0 he
    obtain ⟨v, F1, G, F2, hF, hσ, x, _⟩ := h.get he
    cases hu with
    | al e1 q =>
      rw [hσ] at e1; cases e1
      obtain ⟨G', y, n⟩ := x.path e q
      exact ⟨G', y, fun a h => by rw [hF]; simp [n a h]⟩
  · cases e
theorem R.view_ok {d : PyData} (h : EnvR L A H env σ F) (x : RR L A H σ r v T) (e : r.view env = some d) : DV L.K A H v d := by
  cases x with
  | w x => exact x.view e
  | al e1 q =>
    obtain ⟨w, hw, e⟩ := Option.bind_eq_some_iff.mp (show (Env.at env _ _).bind W.view = some d from e)
    obtain ⟨G, y, _⟩ := h.at (T := []) hw (.al e1 q)
    exact y.view e
end

/-! ### expressions -/
abbrev Ev := Env → Rs (R × Env)
abbrev Tv := Env → Rs (Bool × Env)
abbrev Es := Env → Rs (List R × Env)
def tE (L : Ly) (f : Ev) (q : Bool) : TE := fun σ H Q => ∃ env B F, MS L B env σ H F [] [] [] ∧ ∃ r env', f env = .ok (r, env') ∧ ∀ v H' F' T', Out L B σ q H F [r] env' [v] H' F' T' → Q v H'
def tA (L : Ly) (f : Es) (q : Bool) : TA := fun σ H Q => ∃ env B F, MS L B env σ H F [] [] [] ∧ ∃ rs env', f env = .ok (rs, env') ∧ ∀ vs H' F' T', Out L B σ q H F rs env' vs H' F' T' → Q vs H'
def tT (L : Ly) (f : Tv) (q : Bool) : TT := fun σ H Q => ∃ env B F, MS L B env σ H F [] [] [] ∧ ∃ b env', f env = .ok (b, env') ∧ ∀ H' F', Out L B σ q H F [] env' [] H' F' [] → Q b H'
section
variable {L : Ly} {B : AS} {env env' : Env} {σ : St} {H H' : Hp} {F F' T T' : List Addr} {rs : List R} {vs : List V} {r : R} {v : V} {Q : VK}
/-- the steps so far, from the entry (H0, F0) -/
structure Go (q : Bool) (H0 : Hp) (F0 : List Addr) (H : Hp) (F T : List Addr) : Prop where
  st : Stp (fun a => q = false ∧ a ∈ F0) H0 H
  nw : ∀ a, a ∈ F ∨ a ∈ T → a ∈ F0 ∨ H0 a = none
theorem Go.refl {q : Bool} : Go q H F H F [] := ⟨Stp.refl, fun a h => h.elim .inl fun h => by cases h⟩
theorem Go.there {q : Bool} {H0 : Hp} {F0 : List Addr} (g : Go q H0 F0 H F T) {a : Addr} (h : H a = none) : a ∈ F0 ∨ H0 a = none := by
  by_cases hz : H0 a = none
  · exact .inr hz
  · by_cases hq : q = false ∧ a ∈ F0
    · exact .inl hq.2
    · exact absurd h (by rw [g.st.there hq hz]; exact hz)
theorem Go.there' {q : Bool} {H0 : Hp} {F0 : List Addr} (g : Go q H0 F0 H F T) {a : Addr} (h : H a = none) : (q = false ∧ a ∈ F0) ∨ H0 a = none := by
  by_cases hz : H0 a = none
  · exact .inr hz
  · by_cases hq : q = false ∧ a ∈ F0
    · exact .inl hq
    · exact absurd h (by rw [g.st.there hq hz]; exact hz)
theorem Go.next {q q' qq : Bool} {H0 : Hp} {F0 : List Addr} {B1 : AS} {ss : List R} {ws : List V} (g : Go q H0 F0 H F T) (o : Out L B1 σ q' H F ss env' ws H' F' T') (h1 : q = false → qq = false) (h2 : q' = false → qq = false) : Go qq H0 F0 H' F' (T ++ T') where
  st := g.st.trans o.st (fun x h => ⟨h1 h.1, h.2⟩) fun x h => by
    rcases g.nw x (.inl h.2) with z | z
    · exact .inl ⟨h2 h.1, z⟩
    · exact .inr z
  nw := fun a h => by
    have : a ∈ T ∨ a ∈ F ∨ H a = none := by
      rcases h with h | h
      · exact .inr (o.nw a (.inl h))
      · rcases List.mem_append.mp h with h | h
        · exact .inl h
        · exact .inr (o.nw a (.inr h))
    rcases this with h | h | h
    · exact g.nw a (.inr h)
    · exact g.nw a (.inl h)
    · exact g.there h
/-- an operand's reading, behind those that came before -/
theorem tE_next {q q' qq : Bool} {H0 : Hp} {F0 : List Addr} {f : Ev} (m : MS L B env σ H F rs vs T) (g : Go q H0 F0 H F T) (he : f env = .ok (r, env')) (hp : rs.all R.plain = true ∨ q' = true) (h1 : q = false → qq = false) (h2 : q' = false → qq = false)
    (k : ∀ v H' F' T', MS L B env' σ H' F' (rs ++ [r]) (vs ++ [v]) T' → Go qq H0 F0 H' F' T' → Q v H') : tE L f q' σ H Q :=
  ⟨env, _, F, m.fresh, r, env', he, fun v H' F' T' o => k v H' F' _ (m.next o hp) (g.next o h1 h2)⟩
theorem tA_next {q q' qq : Bool} {H0 : Hp} {F0 : List Addr} {f : Es} {ss : List R} {Q : List V → Hp → Prop} (m : MS L B env σ H F rs vs T) (g : Go q H0 F0 H F T) (he : f env = .ok (ss, env')) (hp : rs.all R.plain = true ∨ q' = true) (h1 : q = false → qq = false) (h2 : q' = false → qq = false)
    (k : ∀ ws H' F' T', MS L B env' σ H' F' (rs ++ ss) (vs ++ ws) T' → Go qq H0 F0 H' F' T' → Q ws H') : tA L f q' σ H Q :=
  ⟨env, _, F, m.fresh, ss, env', he, fun v H' F' T' o => k v H' F' _ (m.next o hp) (g.next o h1 h2)⟩
theorem tT_next {q q' qq : Bool} {H0 : Hp} {F0 : List Addr} {f : Tv} {b : Bool} {Q : Bool → Hp → Prop} (m : MS L B env σ H F rs vs T) (g : Go q H0 F0 H F T) (he : f env = .ok (b, env')) (hp : rs.all R.plain = true ∨ q' = true) (h1 : q = false → qq = false) (h2 : q' = false → qq = false)
    (k : ∀ H' F' T', MS L B env' σ H' F' rs vs T' → Go qq H0 F0 H' F' T' → Q b H') : tT L f q' σ H Q :=
  ⟨env, _, F, m.fresh, b, env', he, fun H' F' o => k H' F' _ (by simpa using m.next o hp) (g.next o h1 h2)⟩
theorem PE.imp {X : Cx} {e : Expr} {t t' : TE} (h : PE X e t) (i : ∀ σ H Q, t' σ H Q → t σ H Q) : PE X e t' := ⟨fun pins s σ H Q I hq => h.run pins s σ H Q I (i σ H Q hq)⟩
theorem PA.imp {X : Cx} {e : List Expr} {t t' : TA} (h : PA X e t) (i : ∀ σ H Q, t' σ H Q → t σ H Q) : PA X e t' := ⟨fun pos pins s σ H Q I hq => h.run pos pins s σ H Q I (i σ H Q hq)⟩
theorem PT.imp {X : Cx} {e : Expr} {t t' : TT} (h : PT X e t) (i : ∀ σ H Q, t' σ H Q → t σ H Q) : PT X e t' := ⟨fun pins s σ H Q I hq => h.run pins s σ H Q I (i σ H Q hq)⟩
/-- the end of an operation that changes nothing -/
theorem out_made {q : Bool} {H0 : Hp} {F0 : List Addr} {w : W} {U : List Addr} (m : MS L B env σ H F rs vs T) (g : Go q H0 F0 H F T)
    (hs : Same H H') (x : WR L (Av B F U) H' w v U) (hn : U.Nodup) (hf : ∀ a ∈ U, H a = none) : Out L B σ q H0 F0 [.w w] env [v] H' F U where
  ms := m.made hs x hn hf
  st := g.st.trans (Z2 := fun _ => False) ⟨fun b o _ e => hs b o e, fun b xs e => hs b _ e, fun b _ _ e => hs b _ e⟩ (fun _ h => h) (fun _ h => h.elim)
  nw := fun a h => h.elim (fun h => g.nw a (.inl h)) fun h => g.there (hf a h)
/-- .. that gives what was there -/
theorem out_bare {q : Bool} {H0 : Hp} {F0 : List Addr} (m : MS L B env σ H F rs vs T) (g : Go q H0 F0 H F T) : Out L B σ q H0 F0 [] env [] H F [] where
  ms := m.bare
  st := g.st
  nw := fun a h => h.elim (fun h => g.nw a (.inl h)) fun h => by cases h
theorem out_of {q : Bool} {H0 : Hp} {F0 : List Addr} (m : MS L B env σ H F rs vs T) (g : Go q H0 F0 H F T) : Out L B σ q H0 F0 rs env vs H F T := ⟨m, g.st, g.nw⟩
end
end Rf
end

section
set_option Elab.async false
set_option linter.all false
set_option maxRecDepth 10000
/-! Expressions without calls of defs: names, constants, operators, tests, displays. -/
namespace Rf
open PySem PySem.Spec PyProof.Rows L2

def SZ : Nat := 16777216
theorem SZ_eq : SZ = sizeLine := by rw [sizeLine_eq]; rfl
theorem le_SZ {n : Nat} (h : decide (n ≤ SZ) = true) : n ≤ sizeLine := by rw [← SZ_eq]; exact of_decide_eq_true h

/-! ### names and constants -/
def fD (d : PyData) : Ev := fun env => .ok (.w (.d d), env)
def fVar (i : Nat) : Ev := fun env => match env[i]? with
  | some (some (.d x)) => .ok (.w (.d x), env)
  | some (some _) => .ok (.al i [], env)
  | _ => .fail
section
variable {L : Ly} {X : Cx} {σ : St} {H : Hp}
theorem tE_made {d : PyData} {v : V} {Q : VK} (hd : ∀ A H, Dq L.K A H v d) (h : tE L (fD d) true σ H Q) : tC v σ H Q := by
  obtain ⟨env, B, F, m, r, env', he, k⟩ := h
  cases he
  exact k v H F [] (out_made m Go.refl (Same.refl H) (.d (hd _ _)) .nil fun _ h => by cases h)
theorem e_int {i : Int} {j : Nat} {pos : Pos} : PE X (.Constant (.int i) j pos) (tE L (fD (.int i)) true) := PE.imp pe_int fun _ _ _ h => tE_made (fun _ _ => .int i) h
theorem e_bl {b : Bool} {j : Nat} {pos : Pos} : PE X (.Constant (.bool b) j pos) (tE L (fD (.bool b)) true) := PE.imp pe_bl fun _ _ _ h => tE_made (fun _ _ => .bl b) h
theorem e_non {j : Nat} {pos : Pos} : PE X (.Constant .none j pos) (tE L (fD .none) true) := PE.imp pe_non fun _ _ _ h => tE_made (fun _ _ => .non) h
theorem e_str {x : Str} {j : Nat} {pos : Pos} : PE X (.Constant (.str x) j pos) (tE L (fD (.str x)) true) := PE.imp pe_str fun _ _ _ h => tE_made (fun _ _ => .str x) h
/-- a name of the module that holds a datum of the written part -/
theorem e_glob {x : Str} {d : PyData} {v : V} {u : Value} {pos : Pos} (hg : Gl X x) (hm : X.mg x = some u) (r : RelV v u) (hd : ∀ A H, Dq L.K A H v d) (hdb : (x == ("__debug__" : Str)) = false) :
    PE X (.Name x pos) (tE L (fD d) true) := PE.imp (pe_glob hg hm r hdb) fun _ _ _ h => tE_made hd h
theorem e_var {i : Nat} {x : Str} {pos : Pos} (hN : X.N[i]? = some x) (hv : Vis X.env.scope x) (hd : (x == ("__debug__" : Str)) = false) (hcd : (x == ("__classdict__" : Str)) = false) : PE X (.Name x pos) (tE L (fVar i) true) := by
  refine PE.imp (pe_var hN hv hd hcd) fun σ H Q h => ?_
  obtain ⟨env, B, F, m, r, env', he, k⟩ := h
  unfold fVar at he
  split at he
  · rename_i x0 h0
    cases he
    obtain ⟨v, F1, G, F2, hF, hσ, w, _⟩ := m.env.get h0
    refine ⟨v, hσ, k v H F [] (out_made m Go.refl (Same.refl H) ?_ .nil fun _ h => by cases h)⟩
    cases w with
    | d w => exact .d w
  · rename_i w0 hn h0
    cases he
    obtain ⟨v, F1, G, F2, hF, hσ, w, _⟩ := m.env.get h0
    exact ⟨v, hσ, k v H F [] ⟨⟨m.env, .cons (.al hσ .nil) .nil, m.nd, m.dj, m.al⟩, Stp.refl, fun a h => h.elim .inl fun h => by cases h⟩⟩
  · cases he
end

/-! ### two operands -/
abbrev Op2 := PyData → PyData → Option W
def f2 (o : Op2) (fa fb : Ev) (qb : Bool) : Ev := fun env => do
  let (ra, e1) ← fa env
  let (rb, e2) ← fb e1
  need (ra.plain || qb)
  let x ← Rs.of (ra.view e2)
  let y ← Rs.of (rb.view e2)
  let w ← Rs.of (o x y)
  pure (.w w, e2)
/-- what a rule on two seen values gives -/
def rD (L : Ly) (o : Op2) : R2 := fun x y H Q => ∃ A dx dy w, DV L.K A H x dx ∧ DV L.K A H y dy ∧ o dx dy = some w ∧ (∀ a, A a → H a ≠ none) ∧
  ∀ v H' U, Same H H' → WR L (fun a => A a ∨ a ∈ U) H' w v U → U.Nodup → (∀ a ∈ U, H a = none) → Q v H'
theorem plain_or {r : R} {q : Bool} (h : (r.plain || q) = true) : [r].all R.plain = true ∨ q = true := by
  cases e : r.plain with
  | true => exact .inl (by simp [e])
  | false => rw [e] at h; exact .inr (by simpa using h)
section
variable {L : Ly} {B : AS} {env : Env} {σ : St} {H : Hp} {F T : List Addr} {rs : List R} {vs : List V}
theorem MS.there (m : MS L B env σ H F rs vs T) : ∀ a, Av B F T a → H a ≠ none := fun a h => by
  rcases h with h | h | h
  · exact m.al a h
  · exact m.env.there a h
  · exact m.res.there a h
theorem MS.res1 {r : R} {v : V} (m : MS L B env σ H F [r] [v] T) : RR L (Av B F T) H σ r v T := RRs.one m.res
theorem MS.res2 {r s : R} {v u : V} (m : MS L B env σ H F [r, s] [v, u] T) : ∃ T1 T2, T = T1 ++ T2 ∧ RR L (Av B F T) H σ r v T1 ∧ RR L (Av B F T) H σ s u T2 := by
  have h := m.res
  generalize hA : Av B F T = A at h ⊢
  cases h with
  | cons x t =>
    cases t with
    | cons y t => cases t; exact ⟨_, _, by simp, x, y⟩
theorem sub_new {A : AS} {U : List Addr} {w : W} {v : V} (hA : ∀ a, Av B F U a → A a ∨ a ∈ U) (x : WR L (fun a => A a ∨ a ∈ U) H w v U) : WR L (Av B F U) H w v U := x.sub hA
theorem av_new {U : List Addr} : ∀ a, Av B F U a → Av B F T a ∨ a ∈ U := fun a h => by
  rcases h with h | h | h
  · exact .inl (.inl h)
  · exact .inl (.inr (.inl h))
  · exact .inr h
end
theorem t2 {L : Ly} {o : Op2} {fa fb : Ev} {qa qb : Bool} {σ : St} {H : Hp} {Q : VK} (h : tE L (f2 o fa fb qb) (qa && qb) σ H Q) : tOp (rD L o) (tE L fa qa) (tE L fb qb) σ H Q := by
  obtain ⟨env, B, F, m, r, env', he, k⟩ := h
  obtain ⟨⟨ra, e1⟩, h1, he⟩ := bind_eq he
  obtain ⟨⟨rb, e2⟩, h2, he⟩ := bind_eq he
  obtain ⟨_, h3, he⟩ := bind_eq he
  obtain ⟨x, h4, he⟩ := bind_eq he
  obtain ⟨y, h5, he⟩ := bind_eq he
  obtain ⟨w, h6, he⟩ := bind_eq he
  cases he
  refine tE_next (qq := qa && qb) m (Go.refl (q := true)) h1 (.inl rfl) (fun z => by cases z) (fun z => by rw [z]; rfl) fun v1 H1 F1 T1 m1 g1 => ?_
  refine tE_next m1 g1 h2 (plain_or (need_eq h3)) id (fun z => by rw [z]; simp) fun v2 H2 F2 T2 m2 g2 => ?_
  obtain ⟨Ta, Tb, _, xa, xb⟩ := MS.res2 m2
  refine ⟨_, x, y, w, R.view_ok m2.env xa (of_eq h4), R.view_ok m2.env xb (of_eq h5), of_eq h6, m2.there, fun v H' U hs hx hn hf => ?_⟩
  exact k v H' F2 U (out_made m2 g2 hs (hx.sub av_new) hn hf)
theorem e_bin {L : Ly} {X : Cx} {a b : Expr} {op : Operator} {pos : Pos} {o : Op2} {fa fb : Ev} {qa qb : Bool} (ho : OpR X (binaryOp op) (rD L o)) (ha : PE X a (tE L fa qa)) (hb : PE X b (tE L fb qb)) :
    PE X (.BinOp a op b pos) (tE L (f2 o fa fb qb) (qa && qb)) := PE.imp (pe_op ho ha hb) fun _ _ _ h => t2 h
theorem e_cmp {L : Ly} {X : Cx} {a b : Expr} {op : CmpOp} {pos : Pos} {o : Op2} {fa fb : Ev} {qa qb : Bool} (ho : OpR X (compareOp op) (rD L o)) (ha : PE X a (tE L fa qa)) (hb : PE X b (tE L fb qb)) (hm : behindInMarks op b = false) :
    PE X (.Compare a [op] [b] pos) (tE L (f2 o fa fb qb) (qa && qb)) := PE.imp (pe_cmpR ho ha hb hm) fun _ _ _ h => t2 h

/-! ### the operators on data -/
def dI (f : Int → Int → Option Int) : Op2
  | .int i, .int j => (f i j).map fun k => .d (.int k)
  | _, _ => none
def dAdd : Op2
  | .int i, .int j => some (.d (.int (i + j)))
  | .str x, .str y => if decide (x.length + y.length ≤ SZ) then some (.d (.str (x ++ y))) else none
  | .tuple xs, .tuple ys => if decide (xs.length + ys.length ≤ SZ) then some (.d (.tuple (xs ++ ys))) else none
  | .list xs, .list ys => if decide (xs.length + ys.length ≤ SZ) then some (.ol (xs ++ ys)) else none
  | _, _ => none
section
variable {L : Ly} {X : Cx} {σ : St} {H : Hp}
theorem new_d {A : AS} {v : V} {d : PyData} {Q : VK} (k : ∀ v H' U, Same H H' → WR L (fun a => A a ∨ a ∈ U) H' (.d d) v U → U.Nodup → (∀ a ∈ U, H a = none) → Q v H') (h : Dq L.K A H v d) : Q v H :=
  k v H [] (Same.refl H) (.d (h.sub fun b q => q.elim id fun q => by cases q)) .nil fun _ q => by cases q
theorem same_new {H : Hp} {p : Addr} {o : HO} (h : H p = none) : Same H (upd H p o) := fun b u e => by rw [upd_ne (ne_of_none e h)]; exact e
theorem stp_of {H H' : Hp} (h : Same H H') : Stp (fun _ => False) H H' := ⟨fun b o _ e => h b o e, fun b xs e => h b _ e, fun b _ _ e => h b _ e⟩
theorem DqAll.same {K : PySem.W.Frag} {A A' : AS} {H H' : Hp} {vs : List V} {ds : List PyData} (h : DqAll K A H vs ds) (s : Same H H') (ha : ∀ b, A' b → A b ∨ H b = none) : DqAll K A' H' vs ds := h.step (stp_of s) (fun _ q => q.elim) ha
theorem new_tup {A : AS} {vs : List V} {ds : List PyData} {Q : VK} (k : ∀ v H' U, Same H H' → WR L (fun a => A a ∨ a ∈ U) H' (.d (.tuple ds)) v U → U.Nodup → (∀ a ∈ U, H a = none) → Q v H') (h : DqAll L.K A H vs ds) {p : Addr} (hp : H p = none) : Q (.ref p) (upd H p (.tup vs)) :=
  k _ _ [] (same_new hp) (.d (.tup (SqT.of upd_same) (h.same (same_new hp) fun b q => q.elim .inl fun q => by cases q))) .nil fun _ q => by cases q
theorem new_lst {A : AS} {vs : List V} {ds : List PyData} {Q : VK} (k : ∀ v H' U, Same H H' → WR L (fun a => A a ∨ a ∈ U) H' (.ol ds) v U → U.Nodup → (∀ a ∈ U, H a = none) → Q v H') (h : DqAll L.K A H vs ds) {p : Addr} (hp : H p = none) : Q (.ref p) (upd H p (.lst vs)) :=
  k _ _ [p] (same_new hp) (.ol upd_same (h.same (same_new hp) fun b q => q.imp id fun q => by rw [List.mem_singleton.mp q]; exact hp)) (by simp) fun a q => by rw [List.mem_singleton.mp q]; exact hp

theorem op_dI {op : Operator} {f : Int → Int → Option Int} {C : Int → Int → Prop} {g : Int → Int → Int} (ho : OpR X (binaryOp op) (rI C fun i j => .int (g i j))) (hf : ∀ i j k, f i j = some k → C i j ∧ k = g i j) : OpR X (binaryOp op) (rD L (dI f)) := by
  intro pins s σ H x y v u Q I rx ry h
  obtain ⟨A, dx, dy, w, hx, hy, e, hA, k⟩ := h
  unfold dI at e
  split at e
  · rename_i i j
    obtain ⟨z, hz, rfl⟩ := Option.map_eq_some_iff.mp e
    obtain ⟨hc, rfl⟩ := hf _ _ _ hz
    obtain rfl := hx.int
    obtain rfl := hy.int
    exact ho pins s σ H _ _ v u Q I rx ry ⟨i, j, rfl, rfl, hc, new_d k (.int _)⟩
  · cases e
theorem op_addD (hK : L.K = X.K) : OpR X (binaryOp .Add) (rD L dAdd) := by
  intro pins s σ H x y v u Q I rx ry h
  obtain ⟨A, dx, dy, w, hx, hy, e, hA, k⟩ := h
  unfold dAdd at e
  split at e
  · rename_i i j
    cases e
    obtain rfl := hx.int
    obtain rfl := hy.int
    exact op_add pins s σ H _ _ v u Q I rx ry ⟨i, j, rfl, rfl, new_d k (.int _)⟩
  · rename_i i j
    split at e
    · rename_i hz
      cases e
      obtain rfl := hx.str
      obtain rfl := hy.str
      exact op_add_str pins s σ H _ _ v u Q I rx ry ⟨i, j, rfl, rfl, le_SZ hz, new_d k (.str _)⟩
    · cases e
  · rename_i xs ys
    split at e
    · rename_i hz
      cases e
      obtain ⟨a, vs, rfl, ha, ra⟩ := hx.tup
      obtain ⟨b, ws, rfl, hb, rb⟩ := hy.tup
      have l1 := ra.length
      have l2 := rb.length
      refine op_catA pins s σ H _ _ v u Q I rx ry ⟨a, b, vs, ws, rfl, rfl, by rw [← hK]; exact ha, by rw [← hK]; exact hb, by rw [l1, l2]; exact le_SZ hz, fun q => ?_, fun _ q => ?_, fun _ _ p hp => ?_⟩
      · subst q; cases ra
        exact new_d k (.tup hb rb)
      · subst q; cases rb
        rw [List.append_nil] at k
        exact new_d k (.tup ha ra)
      · exact new_tup k (ra.append rb) hp
    · cases e
  · rename_i xs ys
    split at e
    · rename_i hz
      cases e
      obtain ⟨a, vs, rfl, ha, ra⟩ := hx.list
      obtain ⟨b, ws, rfl, hb, rb⟩ := hy.list
      have l1 := ra.length
      have l2 := rb.length
      exact op_cat pins s σ H _ _ v u Q I rx ry ⟨a, b, vs, ws, rfl, rfl, ha, hb, by rw [l1, l2]; exact le_SZ hz, fun p hp => new_lst k (ra.append rb) hp⟩
    · cases e
  · cases e
def dSub : Op2 := dI fun i j => some (i - j)
theorem op_subD : OpR X (binaryOp .Sub) (rD L dSub) :=
  op_dI (C := fun _ _ => True) (g := fun i j => i - j) (fun pins s σ H x y v u Q I rx ry ⟨i, j, a, b, _, q⟩ => op_sub pins s σ H x y v u Q I rx ry ⟨i, j, a, b, q⟩) fun i j k h => ⟨trivial, (Option.some.inj h).symm⟩
def dMod : Op2 := dI fun i j => if decide (0 < j) then some (i % j) else none
theorem op_modD : OpR X (binaryOp .Mod) (rD L dMod) := op_dI op_mod fun i j k h => by
  split at h
  · rename_i hz; exact ⟨of_decide_eq_true hz, (Option.some.inj h).symm⟩
  · cases h
def dFdiv : Op2 := dI fun i j => if decide (0 < j) && decide (j < 1073741824) then some (i / j) else none
theorem op_fdivD : OpR X (binaryOp .FloorDiv) (rD L dFdiv) := op_dI op_fdiv fun i j k h => by
  split at h
  · rename_i hz
    rw [Bool.and_eq_true] at hz
    exact ⟨⟨of_decide_eq_true hz.1, of_decide_eq_true hz.2⟩, (Option.some.inj h).symm⟩
  · cases h
def dPow : Op2 := dI fun i j => if decide (0 ≤ j) && decide (j ≤ 1000000) && decide (i.natAbs < 2 ^ 64) then some (i ^ j.toNat) else none
theorem op_powD : OpR X (binaryOp .Pow) (rD L dPow) := op_dI op_pow fun i j k h => by
  split at h
  · rename_i hz
    simp only [Bool.and_eq_true, decide_eq_true_eq] at hz
    exact ⟨⟨hz.1.1, hz.1.2, hz.2⟩, (Option.some.inj h).symm⟩
  · cases h
/-! #### comparing -/
def dEq : Op2 := fun x y => match x, y with
  | .str a, .str b => some (.d (.bool (decide (a = b))))
  | x, y => if SeqAt.shaped x && SeqAt.shaped y then some (.d (.bool (PyData.eqv x y))) else none
def dNe : Op2 := fun x y => match x, y with
  | .str a, .str b => some (.d (.bool (!decide (a = b))))
  | x, y => if SeqAt.shaped x && SeqAt.shaped y then some (.d (.bool (!PyData.eqv x y))) else none
theorem dec_strV {a b : Str} : decide (V.str a = V.str b) = decide (a = b) := by
  by_cases h : a = b
  · subst h; simp
  · rw [decide_eq_false h, decide_eq_false fun e => h (V.str.inj e)]
theorem op_eqDD (hK : L.K = X.K) (hu : X.A.units + 64 < cLine) : OpR X (compareOp .Eq) (rD L dEq) := by
  intro pins s σ H x y v u Q I rx ry h
  obtain ⟨A, dx, dy, w, hx, hy, e, hA, k⟩ := h
  unfold dEq at e
  split at e
  · cases e
    obtain rfl := hx.str
    obtain rfl := hy.str
    exact op_eq pins s σ H _ _ v u Q I rx ry ⟨rfl, by rw [dec_strV]; exact new_d k (.bl _)⟩
  · split at e
    · rename_i hz
      rw [Bool.and_eq_true] at hz
      cases e
      exact op_eqD hu pins s σ H _ _ v u Q I rx ry ⟨dx, dy, by rw [← hK]; exact hx.dp, by rw [← hK]; exact hy.dp, hz.1, hz.2, new_d k (.bl _)⟩
    · cases e
theorem op_neDD (hK : L.K = X.K) (hu : X.A.units + 64 < cLine) : OpR X (compareOp .NotEq) (rD L dNe) := by
  intro pins s σ H x y v u Q I rx ry h
  obtain ⟨A, dx, dy, w, hx, hy, e, hA, k⟩ := h
  unfold dNe at e
  split at e
  · cases e
    obtain rfl := hx.str
    obtain rfl := hy.str
    exact op_ne pins s σ H _ _ v u Q I rx ry ⟨rfl, by rw [dec_strV]; exact new_d k (.bl _)⟩
  · split at e
    · rename_i hz
      rw [Bool.and_eq_true] at hz
      cases e
      exact op_neD hu pins s σ H _ _ v u Q I rx ry ⟨dx, dy, by rw [← hK]; exact hx.dp, by rw [← hK]; exact hy.dp, hz.1, hz.2, new_d k (.bl _)⟩
    · cases e
def dC (fi : Int → Int → Bool) (fs : Str → Str → Bool) : Op2
  | .int i, .int j => some (.d (.bool (fi i j)))
  | .str x, .str y => some (.d (.bool (fs x y)))
  | _, _ => none
theorem op_dC {op : CmpOp} {fi : Int → Int → Bool} {fs : Str → Str → Bool} (hi : OpR X (compareOp op) (rI0 fun i j => .bl (fi i j)))
    (hs : OpR X (compareOp op) (fun x y H Q => ∃ i j, x = .str i ∧ y = .str j ∧ Q (.bl (fs i j)) H)) : OpR X (compareOp op) (rD L (dC fi fs)) := by
  intro pins s σ H x y v u Q I rx ry h
  obtain ⟨A, dx, dy, w, hx, hy, e, hA, k⟩ := h
  unfold dC at e
  split at e
  · rename_i i j
    cases e
    obtain rfl := hx.int
    obtain rfl := hy.int
    exact hi pins s σ H _ _ v u Q I rx ry ⟨i, j, rfl, rfl, new_d k (.bl _)⟩
  · rename_i i j
    cases e
    obtain rfl := hx.str
    obtain rfl := hy.str
    exact hs pins s σ H _ _ v u Q I rx ry ⟨i, j, rfl, rfl, new_d k (.bl _)⟩
  · cases e
def sLt (x y : Str) : Bool := decide (x.cps.toList < y.cps.toList)
def sLe (x y : Str) : Bool := decide (x.cps.toList ≤ y.cps.toList)
def dLt : Op2 := dC (fun i j => decide (i < j)) sLt
def dLe : Op2 := dC (fun i j => decide (i ≤ j)) sLe
def dGt : Op2 := dC (fun i j => decide (j < i)) fun x y => sLt y x
def dGe : Op2 := dC (fun i j => decide (j ≤ i)) fun x y => sLe y x
theorem op_ltD : OpR X (compareOp .Lt) (rD L dLt) := op_dC op_lt op_lt_str
def isN (o : PyData) : Bool := match o with
  | .none => true
  | _ => false
def dIs : Op2
  | x, .none => some (.d (.bool (isN x)))
  | x, .bool b => some (.d (.bool (match x with | .bool c => c == b | _ => false)))
  | _, _ => none
theorem DV.isN {A : AS} {v : V} {d : PyData} (h : DV L.K A H v d) : decide (v = .non) = isN d := by
  cases h with
  | q h => cases h <;> rfl
  | l _ _ => rfl
end
end Rf
end

section
set_option Elab.async false
set_option linter.all false
set_option maxRecDepth 10000
/-! Tests, truth, and, or, not, chains, conditional expressions; argument lists; displays. -/
namespace Rf
open PySem PySem.Spec PyProof.Rows L2

section
variable {L : Ly} {X : Cx} {σ : St} {H : Hp}
theorem op_leD : OpR X (compareOp .LtE) (rD L (dC (fun i j => decide (i ≤ j)) fun x y => !sLt y x)) := op_dC op_le op_le_str
theorem op_gtD : OpR X (compareOp .Gt) (rD L (dC (fun i j => decide (j < i)) fun x y => sLt y x)) := op_dC op_gt op_gt_str
theorem op_geD : OpR X (compareOp .GtE) (rD L (dC (fun i j => decide (j ≤ i)) fun x y => !sLt x y)) := op_dC op_ge op_ge_str
/-- is, is not: of None on the right, or of two truth values -/
def dIsx (neg : Bool) : Op2
  | x, .none => some (.d (.bool (if neg then !isN x else isN x)))
  | .bool b, .bool c => some (.d (.bool (if neg then !decide (b = c) else decide (b = c))))
  | _, _ => none
theorem op_isD : OpR X (compareOp .Is) (rD L (dIsx false)) := by
  intro pins s σ H x y v u Q I rx ry h
  obtain ⟨A, dx, dy, w, hx, hy, e, hA, k⟩ := h
  unfold dIsx at e
  split at e
  · cases e
    obtain rfl := hy.non
    exact op_isN pins s σ H _ _ v u Q I rx ry ⟨rfl, by rw [hx.isN]; exact new_d k (.bl _)⟩
  · cases e
    obtain rfl := hx.bl
    obtain rfl := hy.bl
    exact op_isBl pins s σ H _ _ v u Q I rx ry ⟨_, _, rfl, rfl, new_d k (.bl _)⟩
  · cases e
theorem op_isNotD : OpR X (compareOp .IsNot) (rD L (dIsx true)) := by
  intro pins s σ H x y v u Q I rx ry h
  obtain ⟨A, dx, dy, w, hx, hy, e, hA, k⟩ := h
  unfold dIsx at e
  split at e
  · cases e
    obtain rfl := hy.non
    exact op_notN pins s σ H _ _ v u Q I rx ry ⟨rfl, by rw [hx.isN]; exact new_d k (.bl _)⟩
  · cases e
    obtain rfl := hx.bl
    obtain rfl := hy.bl
    exact op_notBl pins s σ H _ _ v u Q I rx ry ⟨_, _, rfl, rfl, new_d k (.bl _)⟩
  · cases e
end

section
variable {L : Ly} {B : AS} {env env' : Env} {σ : St} {H H' : Hp} {F F' T T' : List Addr} {rs : List R} {vs : List V} {r : R} {v : V}
theorem MS.same (m : MS L B env σ H F rs vs T) (s : Same H H') : MS L B env σ H' F rs vs T where
  env := m.env.step (stp_of s) (fun _ q => q.elim) (fun b q => .inl q) fun _ _ q => q
  res := m.res.step (stp_of s) (fun _ q => q.elim) (fun b q => .inl q) (fun _ _ q => q) (.inr fun _ q => q)
  nd := m.nd
  dj := m.dj
  al := fun b h => by
    cases e : H b with
    | none => exact absurd e (m.al b h)
    | some o => rw [s b o e]; intro q; cases q
theorem Go.same {q : Bool} {H0 : Hp} {F0 : List Addr} (g : Go q H0 F0 H F T) (s : Same H H') : Go q H0 F0 H' F T where
  st := g.st.trans (stp_of s) (fun _ h => h) fun _ h => h.elim
  nw := g.nw
/-- pending results are forgotten -/
theorem MS.drop (m : MS L B env σ H F rs vs T) : MS L B env σ H F [] [] [] := m.bare
theorem Go.drop {q : Bool} {H0 : Hp} {F0 : List Addr} (g : Go q H0 F0 H F T) : Go q H0 F0 H F [] := ⟨g.st, fun a h => h.elim (fun h => g.nw a (.inl h)) fun h => by cases h⟩
theorem Go.weak {q q' : Bool} {H0 : Hp} {F0 : List Addr} (g : Go q H0 F0 H F T) (h : q = false → q' = false) : Go q' H0 F0 H F T := ⟨g.st.mono fun x z => .inl ⟨h z.1, z.2⟩, g.nw⟩
end

/-! ### tests -/
def fTest (f : Ev) : Tv := fun env => do
  let (r, e1) ← f env
  match r with
  | .w (.d (.bool b)) => pure (b, e1)
  | _ => .fail
theorem tTest_of {L : Ly} {f : Ev} {q : Bool} {σ : St} {H : Hp} {Q : Bool → Hp → Prop} (h : tT L (fTest f) q σ H Q) : tE L f q σ H (fun x H' => ∃ k, x = .bl k ∧ Q k H') := by
  obtain ⟨env, B, F, m, b, env', he, k⟩ := h
  obtain ⟨⟨r, e1⟩, h1, he⟩ := bind_eq he
  refine ⟨env, B, F, m, r, e1, h1, fun v H' F' T' o => ?_⟩
  dsimp only at he
  split at he
  · cases he
    refine ⟨b, ?_, k H' F' (out_bare o.ms ⟨o.st, o.nw⟩)⟩
    have x := o.ms.res1
    cases x with
    | w x =>
      cases x with
      | d x => cases x; rfl
  · cases he
theorem c_cmp {L : Ly} {X : Cx} {a b : Expr} {op : CmpOp} {pos : Pos} {o : Op2} {fa fb : Ev} {qa qb : Bool} (ho : OpR X (compareOp op) (rD L o)) (ha : PE X a (tE L fa qa)) (hb : PE X b (tE L fb qb)) (hm : behindInMarks op b = false) :
    PT X (.Compare a [op] [b] pos) (tT L (fTest (f2 o fa fb qb)) (qa && qb)) := PT.imp (pt_cmpR ho ha hb hm) fun _ _ _ h => t2 (tTest_of h)
/-- a op b op' c -/
def fChain (o o' : Op2) (fa fb fc : Ev) (qb qc : Bool) : Ev := fun env => do
  let (ra, e1) ← fa env
  let (rb, e2) ← fb e1
  need (ra.plain || qb)
  let x ← Rs.of (ra.view e2)
  let y ← Rs.of (rb.view e2)
  let w ← Rs.of (o x y)
  match w with
  | .d (.bool true) => do
    let (rc, e3) ← fc e2
    need ((ra.plain && rb.plain) || qc)
    let y' ← Rs.of (rb.view e3)
    let z ← Rs.of (rc.view e3)
    let w' ← Rs.of (o' y' z)
    pure (.w w', e3)
  | .d (.bool false) => pure (.w (.d (.bool false)), e2)
  | _ => .fail
theorem plain_or2 {r s : R} {q : Bool} (h : ((r.plain && s.plain) || q) = true) : [r, s].all R.plain = true ∨ q = true := by
  cases e : (r.plain && s.plain) with
  | true => exact .inl (by simpa using e)
  | false => rw [e] at h; exact .inr (by simpa using h)
theorem MS.res3 {L : Ly} {B : AS} {env : Env} {σ : St} {H : Hp} {F T : List Addr} {r s t : R} {v u x : V} (m : MS L B env σ H F [r, s, t] [v, u, x] T) : ∃ T1 T2 T3, T = T1 ++ (T2 ++ T3) ∧ RR L (Av B F T) H σ r v T1 ∧ RR L (Av B F T) H σ s u T2 ∧ RR L (Av B F T) H σ t x T3 := by
  have h := m.res
  generalize hA : Av B F T = A at h ⊢
  cases h with
  | cons x t =>
    cases t with
    | cons y t =>
      cases t with
      | cons z t => cases t; exact ⟨_, _, _, by simp, x, y, z⟩
theorem tChain_of {L : Ly} {o o' : Op2} {fa fb fc : Ev} {qa qb qc : Bool} {σ : St} {H : Hp} {Q : VK} (h : tE L (fChain o o' fa fb fc qb qc) (qa && qb && qc) σ H Q) : tChain (rD L o) (rD L o') (tE L fa qa) (tE L fb qb) (tE L fc qc) σ H Q := by
  obtain ⟨env, B, F, m, r, env', he, k⟩ := h
  obtain ⟨⟨ra, e1⟩, h1, he⟩ := bind_eq he
  obtain ⟨⟨rb, e2⟩, h2, he⟩ := bind_eq he
  obtain ⟨_, h3, he⟩ := bind_eq he
  obtain ⟨x, h4, he⟩ := bind_eq he
  obtain ⟨y, h5, he⟩ := bind_eq he
  obtain ⟨w, h6, he⟩ := bind_eq he
  refine tE_next (qq := qa && qb && qc) m (Go.refl (q := true)) h1 (.inl rfl) (fun z => by cases z) (fun z => by rw [z]; rfl) fun v1 H1 F1 T1 m1 g1 => ?_
  refine tE_next m1 g1 h2 (plain_or (need_eq h3)) id (fun z => by rw [z]; simp) fun v2 H2 F2 T2 m2 g2 => ?_
  obtain ⟨Ta, Tb, _, xa, xb⟩ := MS.res2 m2
  refine ⟨_, x, y, w, R.view_ok m2.env xa (of_eq h4), R.view_ok m2.env xb (of_eq h5), of_eq h6, m2.there, fun v H3 U hs hx hn hf => ?_⟩
  have m3 := m2.same hs
  have g3 := g2.same hs
  dsimp only at he
  split at he
  · obtain ⟨⟨rc, e3⟩, h7, he⟩ := bind_eq he
    obtain ⟨_, h8, he⟩ := bind_eq he
    obtain ⟨y', h9, he⟩ := bind_eq he
    obtain ⟨z, h10, he⟩ := bind_eq he
    obtain ⟨w', h11, he⟩ := bind_eq he
    cases he
    have hv : v = .bl true := by
      cases hx with
      | d hx => cases hx; rfl
    refine ⟨true, hv, ?_⟩
    rw [if_pos rfl]
    refine tE_next m3 g3 h7 (plain_or2 (need_eq h8)) id (fun z => by rw [z]; simp) fun v4 H4 F4 T4 m4 g4 => ?_
    obtain ⟨Ta', Tb', Tc', _, ya, yb, yc⟩ := MS.res3 m4
    refine ⟨_, y', z, w', R.view_ok m4.env yb (of_eq h9), R.view_ok m4.env yc (of_eq h10), of_eq h11, m4.there, fun v H' U hs hx hn hf => ?_⟩
    exact k v H' F4 U (out_made m4 g4 hs (hx.sub av_new) hn hf)
  · cases he
    have hv : v = .bl false := by
      cases hx with
      | d hx => cases hx; rfl
    refine ⟨false, hv, ?_⟩
    rw [if_neg Bool.false_ne_true]
    exact k _ _ F2 [] (out_made m3 g3 (Same.refl _) (.d (.bl _)) .nil fun _ q => by cases q)
  · cases he
theorem e_chain {L : Ly} {X : Cx} {a b c : Expr} {op op' : CmpOp} {pos : Pos} {o o' : Op2} {fa fb fc : Ev} {qa qb qc : Bool} (ho : OpR X (compareOp op) (rD L o)) (ho' : OpR X (compareOp op') (rD L o')) (ha : PE X a (tE L fa qa)) (hb : PE X b (tE L fb qb)) (hc : PE X c (tE L fc qc))
    (hm : lastMarks [op, op'] [b, c] = false) : PE X (.Compare a [op, op'] [b, c] pos) (tE L (fChain o o' fa fb fc qb qc) (qa && qb && qc)) := PE.imp (pe_chain ho ho' ha hb hc hm) fun _ _ _ h => tChain_of h
theorem c_chain {L : Ly} {X : Cx} {a b c : Expr} {op op' : CmpOp} {pos : Pos} {o o' : Op2} {fa fb fc : Ev} {qa qb qc : Bool} (ho : OpR X (compareOp op) (rD L o)) (ho' : OpR X (compareOp op') (rD L o')) (ha : PE X a (tE L fa qa)) (hb : PE X b (tE L fb qb)) (hc : PE X c (tE L fc qc))
    (hm : lastMarks [op, op'] [b, c] = false) : PT X (.Compare a [op, op'] [b, c] pos) (tT L (fTest (fChain o o' fa fb fc qb qc)) (qa && qb && qc)) := PT.imp (pt_chain ho ho' ha hb hc hm) fun _ _ _ h => tChain_of (tTest_of h)
/-! #### the truth of a value -/
def truthD : PyData → Option Bool
  | .none => some false
  | .bool b => some b
  | .int i => some (i != 0)
  | .str x => if decide (x.length ≤ SZ) then some ((x.length : Int) != 0) else none
  | .list xs => some (!xs.isEmpty)
  | .tuple xs => some (!xs.isEmpty)
  | .dict _ => none
def fTruth (f : Ev) : Tv := fun env => do
  let (r, e1) ← f env
  let x ← Rs.of (r.view e1)
  let b ← Rs.of (truthD x)
  pure (b, e1)
theorem DqAll.isEmpty {K : PySem.W.Frag} {A : AS} {H : Hp} {vs : List V} {ds : List PyData} (h : DqAll K A H vs ds) : vs.isEmpty = ds.isEmpty := by
  cases h <;> rfl
theorem DV.tru {L : Ly} {A : AS} {H : Hp} {v : V} {d : PyData} {b : Bool} (h : DV L.K A H v d) (e : truthD d = some b) : TruV L.K v H b := by
  cases d with
  | none => obtain rfl := h.non; cases e; rfl
  | bool c => obtain rfl := h.bl; cases e; rfl
  | int i => obtain rfl := h.int; cases e; rfl
  | str x =>
    obtain rfl := h.str
    have e' : (if decide (x.length ≤ SZ) then some ((x.length : Int) != 0) else none) = some b := e
    split at e'
    · rename_i hz; cases e'; exact ⟨le_SZ hz, rfl⟩
    · cases e'
  | list xs =>
    obtain ⟨a, vs, rfl, ha, r⟩ := h.list
    cases e
    exact .inl ⟨vs, SqL.of ha, by rw [r.isEmpty]⟩
  | tuple xs =>
    obtain ⟨a, vs, rfl, ha, r⟩ := h.tup
    cases e
    exact .inr (.inl ⟨vs, ha, by rw [r.isEmpty]⟩)
  | dict _ => cases e
theorem c_truth {L : Ly} {X : Cx} {a : Expr} {f : Ev} {q : Bool} (hK : L.K = X.K) (ha : PE X a (tE L f q)) (he : ∀ whole, isTrue a X.env whole = (do let v ← whole; standAt a.pos; holding [v] (truthy v))) : PT X a (tT L (fTruth f) q) :=
  PT.imp (pt_truth ha he) fun σ H Q h => by
    obtain ⟨env, B, F, m, b, env', hf, k⟩ := h
    obtain ⟨⟨r, e1⟩, h1, hf⟩ := bind_eq hf
    obtain ⟨x, h2, hf⟩ := bind_eq hf
    obtain ⟨b', h3, hf⟩ := bind_eq hf
    cases hf
    refine ⟨env, B, F, m, r, env', h1, fun v H' F' T' o => ⟨b, ?_, k H' F' (out_bare o.ms ⟨o.st, o.nw⟩)⟩⟩
    rw [← hK]
    exact (R.view_ok o.ms.env o.ms.res1 (of_eq h2)).tru (of_eq h3)
/-! #### not, and, or -/
def fNotT (f : Tv) : Tv := fun env => do
  let (b, e1) ← f env
  pure (!b, e1)
theorem c_not {L : Ly} {X : Cx} {a : Expr} {f : Tv} {q : Bool} {pos : Pos} (ha : PT X a (tT L f q)) : PT X (.UnaryOp .Not a pos) (tT L (fNotT f) q) := PT.imp (pt_not ha) fun σ H Q h => by
  obtain ⟨env, B, F, m, b, env', hf, k⟩ := h
  obtain ⟨⟨b', e1⟩, h1, hf⟩ := bind_eq hf
  cases hf
  exact ⟨env, B, F, m, b', _, h1, fun H' F' o => k H' F' o⟩
def fAndT (f g : Tv) : Tv := fun env => do
  let (b, e1) ← f env
  if b then g e1 else pure (false, e1)
def fOrT (f g : Tv) : Tv := fun env => do
  let (b, e1) ← f env
  if b then pure (true, e1) else g e1
theorem tAnd_of {L : Ly} {f g : Tv} {qf qg : Bool} {σ : St} {H : Hp} {Q : Bool → Hp → Prop} (h : tT L (fAndT f g) (qf && qg) σ H Q) : tAnd (tT L f qf) (tT L g qg) σ H Q := by
  obtain ⟨env, B, F, m, b, env', he, k⟩ := h
  obtain ⟨⟨b', e1⟩, h1, he⟩ := bind_eq he
  refine tT_next (qq := qf && qg) m (Go.refl (q := true)) h1 (.inl rfl) (fun z => by cases z) (fun z => by rw [z]; rfl) fun H1 F1 T1 m1 g1 => ?_
  dsimp only at he
  cases b' with
  | true =>
    rw [if_pos rfl] at he ⊢
    exact tT_next m1 g1 he (.inl rfl) id (fun z => by rw [z]; simp) fun H2 F2 T2 m2 g2 => k H2 F2 (out_bare m2 g2)
  | false =>
    rw [if_neg Bool.false_ne_true] at he ⊢
    cases he
    exact k H1 F1 (out_bare m1 g1)
theorem tOr_of {L : Ly} {f g : Tv} {qf qg : Bool} {σ : St} {H : Hp} {Q : Bool → Hp → Prop} (h : tT L (fOrT f g) (qf && qg) σ H Q) : tOr (tT L f qf) (tT L g qg) σ H Q := by
  obtain ⟨env, B, F, m, b, env', he, k⟩ := h
  obtain ⟨⟨b', e1⟩, h1, he⟩ := bind_eq he
  refine tT_next (qq := qf && qg) m (Go.refl (q := true)) h1 (.inl rfl) (fun z => by cases z) (fun z => by rw [z]; rfl) fun H1 F1 T1 m1 g1 => ?_
  dsimp only at he
  cases b' with
  | false =>
    rw [if_neg Bool.false_ne_true] at he ⊢
    exact tT_next m1 g1 he (.inl rfl) id (fun z => by rw [z]; simp) fun H2 F2 T2 m2 g2 => k H2 F2 (out_bare m2 g2)
  | true =>
    rw [if_pos rfl] at he ⊢
    cases he
    exact k H1 F1 (out_bare m1 g1)
theorem PW.imp {X : Cx} {e : Expr} {t t' : TT} (h : PW X e t) (i : ∀ σ H Q, t' σ H Q → t σ H Q) : PW X e t' := ⟨fun w pins s σ H Q I hq => h.run w pins s σ H Q I (i σ H Q hq)⟩
theorem w_one {X : Cx} {a : Expr} {op : BoolOp} {pos : Pos} {t : TT} (h : PT X a t) : PW X (.BoolOp op [a] pos) t := by
  cases op with
  | And => exact pw_and1 h
  | Or => exact pw_or1 h
theorem w_and {L : Ly} {X : Cx} {a b : Expr} {rest : List Expr} {pos : Pos} {f g : Tv} {qf qg : Bool} (ha : PT X a (tT L f qf)) (hb : PW X (.BoolOp .And (b :: rest) pos) (tT L g qg)) : PW X (.BoolOp .And (a :: b :: rest) pos) (tT L (fAndT f g) (qf && qg)) :=
  PW.imp (pw_and ha hb) fun _ _ _ h => tAnd_of h
theorem w_or {L : Ly} {X : Cx} {a b : Expr} {rest : List Expr} {pos : Pos} {f g : Tv} {qf qg : Bool} (ha : PT X a (tT L f qf)) (hb : PW X (.BoolOp .Or (b :: rest) pos) (tT L g qg)) : PW X (.BoolOp .Or (a :: b :: rest) pos) (tT L (fOrT f g) (qf && qg)) :=
  PW.imp (pw_or ha hb) fun _ _ _ h => tOr_of h
/-! #### the same as values -/
def fBl (f : Ev) : Env → Rs (Bool × Env) := fTest f
def fNot (f : Ev) : Ev := fun env => do
  let (b, e1) ← fTest f env
  pure (.w (.d (.bool (!b))), e1)
def fAnd (f g : Ev) : Ev := fun env => do
  let (b, e1) ← fTest f env
  if b then g e1 else pure (.w (.d (.bool false)), e1)
def fOr (f g : Ev) : Ev := fun env => do
  let (b, e1) ← fTest f env
  if b then pure (.w (.d (.bool true)), e1) else g e1
/-- a test within: its value, behind what came before -/
theorem tE_test {L : Ly} {B : AS} {env env' : Env} {σ : St} {H : Hp} {F T : List Addr} {rs : List R} {vs : List V} {q q' qq : Bool} {H0 : Hp} {F0 : List Addr} {f : Ev} {b : Bool} {Q : VK} (m : MS L B env σ H F rs vs T) (g : Go q H0 F0 H F T) (he : fTest f env = .ok (b, env')) (hp : rs.all R.plain = true ∨ q' = true) (h1 : q = false → qq = false) (h2 : q' = false → qq = false)
    (k : ∀ H' F' T', MS L B env' σ H' F' rs vs T' → Go qq H0 F0 H' F' T' → Q (.bl b) H') : tE L f q' σ H Q := by
  obtain ⟨⟨r, e1⟩, h3, he⟩ := bind_eq he
  dsimp only at he
  split at he
  · cases he
    refine ⟨env, _, F, m.fresh, _, _, h3, fun v H' F' T' o => ?_⟩
    have hv : v = .bl b := by
      have x := o.ms.res1
      cases x with
      | w x =>
        cases x with
        | d x => cases x; rfl
    rw [hv]
    have o2 : Out L (fun a => B a ∨ a ∈ T) σ q' H F [] env' [] H' F' [] := out_bare o.ms ⟨o.st, o.nw⟩
    exact k H' F' _ (by simpa using m.next o2 hp) (g.next o2 h1 h2)
  · cases he
theorem e_not {L : Ly} {X : Cx} {a : Expr} {f : Ev} {q : Bool} {pos : Pos} (ha : PE X a (tE L f q)) : PE X (.UnaryOp .Not a pos) (tE L (fNot f) q) := PE.imp (pe_not ha) fun σ H Q h => by
  obtain ⟨env, B, F, m, r, env', he, k⟩ := h
  obtain ⟨⟨b, e1⟩, h1, he⟩ := bind_eq he
  cases he
  exact tE_test (qq := q) m (Go.refl (q := true)) h1 (.inl rfl) (fun z => by cases z) id fun H1 F1 T1 m1 g1 => ⟨b, rfl, k _ _ F1 [] (out_made m1 g1 (Same.refl _) (.d (.bl _)) .nil fun _ q => by cases q)⟩
theorem e_one {L : Ly} {X : Cx} {a : Expr} {op : BoolOp} {pos : Pos} {t : TE} (h : PE X a t) : PE X (.BoolOp op [a] pos) t := pe_one h
theorem e_and {L : Ly} {X : Cx} {a b : Expr} {rest : List Expr} {pos : Pos} {f g : Ev} {qf qg : Bool} (ha : PE X a (tE L f qf)) (hb : PE X (.BoolOp .And (b :: rest) pos) (tE L g qg)) : PE X (.BoolOp .And (a :: b :: rest) pos) (tE L (fAnd f g) (qf && qg)) :=
  PE.imp (pe_and ha hb) fun σ H Q h => by
    obtain ⟨env, B, F, m, r, env', he, k⟩ := h
    obtain ⟨⟨b, e1⟩, h1, he⟩ := bind_eq he
    refine tE_test (qq := qf && qg) m (Go.refl (q := true)) h1 (.inl rfl) (fun z => by cases z) (fun z => by rw [z]; rfl) fun H1 F1 T1 m1 g1 => ⟨b, rfl, ?_⟩
    dsimp only at he
    cases b with
    | true =>
      rw [if_pos rfl] at he ⊢
      exact tE_next m1 g1 he (.inl rfl) id (fun z => by rw [z]; simp) fun v H2 F2 T2 m2 g2 => k v H2 F2 T2 (out_of m2 g2)
    | false =>
      rw [if_neg Bool.false_ne_true] at he ⊢
      cases he
      exact k _ _ F1 [] (out_made m1 g1 (Same.refl _) (.d (.bl _)) .nil fun _ q => by cases q)
theorem e_or {L : Ly} {X : Cx} {a b : Expr} {rest : List Expr} {pos : Pos} {f g : Ev} {qf qg : Bool} (ha : PE X a (tE L f qf)) (hb : PE X (.BoolOp .Or (b :: rest) pos) (tE L g qg)) : PE X (.BoolOp .Or (a :: b :: rest) pos) (tE L (fOr f g) (qf && qg)) :=
  PE.imp (pe_or ha hb) fun σ H Q h => by
    obtain ⟨env, B, F, m, r, env', he, k⟩ := h
    obtain ⟨⟨b, e1⟩, h1, he⟩ := bind_eq he
    refine tE_test (qq := qf && qg) m (Go.refl (q := true)) h1 (.inl rfl) (fun z => by cases z) (fun z => by rw [z]; rfl) fun H1 F1 T1 m1 g1 => ⟨b, rfl, ?_⟩
    dsimp only at he
    cases b with
    | false =>
      rw [if_neg Bool.false_ne_true] at he ⊢
      exact tE_next m1 g1 he (.inl rfl) id (fun z => by rw [z]; simp) fun v H2 F2 T2 m2 g2 => k v H2 F2 T2 (out_of m2 g2)
    | true =>
      rw [if_pos rfl] at he ⊢
      cases he
      exact k _ _ F1 [] (out_made m1 g1 (Same.refl _) (.d (.bl _)) .nil fun _ q => by cases q)
/-! #### a if t else b -/
def fIf (t : Tv) (f g : Ev) : Ev := fun env => do
  let (b, e1) ← t env
  if b then f e1 else g e1
theorem e_if {L : Ly} {X : Cx} {c a b : Expr} {pos : Pos} {t : Tv} {f g : Ev} {qt qf qg : Bool} (hc : PT X c (tT L t qt)) (ha : PE X a (tE L f qf)) (hb : PE X b (tE L g qg)) : PE X (.IfExp c a b pos) (tE L (fIf t f g) (qt && qf && qg)) :=
  PE.imp (pe_ifExp hc ha hb) fun σ H Q h => by
    obtain ⟨env, B, F, m, r, env', he, k⟩ := h
    obtain ⟨⟨b, e1⟩, h1, he⟩ := bind_eq he
    refine tT_next (qq := qt && qf && qg) m (Go.refl (q := true)) h1 (.inl rfl) (fun z => by cases z) (fun z => by rw [z]; rfl) fun H1 F1 T1 m1 g1 => ?_
    dsimp only at he
    cases b with
    | true =>
      rw [if_pos rfl] at he ⊢
      exact tE_next m1 g1 he (.inl rfl) id (fun z => by rw [z]; simp) fun v H2 F2 T2 m2 g2 => k v H2 F2 T2 (out_of m2 g2)
    | false =>
      rw [if_neg Bool.false_ne_true] at he ⊢
      exact tE_next m1 g1 he (.inl rfl) id (fun z => by rw [z]; simp) fun v H2 F2 T2 m2 g2 => k v H2 F2 T2 (out_of m2 g2)
end Rf
end

section
set_option Elab.async false
set_option linter.all false
set_option maxRecDepth 10000
/-! Argument lists, freezing, displays, subscripts, slices, calls of what is built in. -/
namespace Rf
open PySem PySem.Spec PyProof.Rows L2

/-! ### freezing -/
def froz : R → Env → Rs (PyData × Env)
  | .w (.d x), env => .ok (x, env)
  | .w (.ol xs), env => .ok (.list xs, env)
  | .al i [], env => match env[i]? with
    | some (some (.ol xs)) => .ok (.list xs, env.set i (some (.d (.list xs))))
    | some (some (.d x)) => .ok (x, env)
    | _ => .fail
  | _, _ => .fail
def fFrz (f : Ev) : Ev := fun env => do
  let (r, e1) ← f env
  let (x, e2) ← froz r e1
  pure (.w (.d x), e2)
theorem set_self {α : Type} : ∀ {l : List α} {i : Nat} {a : α}, l[i]? = some a → l.set i a = l
  | [], _, _, h => by simp at h
  | x :: l, 0, a, h => by simp at h; simp [h]
  | x :: l, i + 1, a, h => by simp; exact set_self (by simpa using h)
theorem Out.frz {L : Ly} {B : AS} {σ : St} {q : Bool} {H H' : Hp} {F F' T' : List Addr} {r : R} {e1 e2 : Env} {v : V} {x : PyData} (o : Out L B σ q H F [r] e1 [v] H' F' T') (e : froz r e1 = .ok (x, e2)) :
    ∃ F2, Out L B σ q H F [.w (.d x)] e2 [v] H' F2 [] := by
  have hr := o.ms.res1
  unfold froz at e
  split at e
  · cases e
    cases hr with
    | w y =>
      cases y with
      | d y => exact ⟨F', o⟩
  · rename_i xs env
    cases e
    cases hr with
    | w y =>
      cases y with
      | @ol a vs _ h1 h2 =>
        have n := List.nodup_append.mp o.ms.nd
        refine ⟨F', ⟨⟨o.ms.env.sub ?_, .cons (.w (.d (.lst h1 (fun z => ?_) (h2.sub ?_)))) .nil, by simpa using n.1, fun a h => o.ms.dj a (h.elim .inl fun h => by cases h), o.ms.al⟩, o.st, fun a h => o.nw a (h.elim .inl fun h => by cases h)⟩⟩
        · intro b h
          rcases h with h | h | h
          · exact .inl h
          · exact .inr (.inl h)
          · cases h
        · rcases z with z | z | z
          · exact o.ms.dj a (.inr (List.mem_singleton.mpr rfl)) z
          · exact n.2.2 a z a (List.mem_singleton.mpr rfl) rfl
          · cases z
        · intro b h
          rcases h with h | h | h
          · exact .inl h
          · exact .inr (.inl h)
          · cases h
  · rename_i i env
    split at e
    · rename_i xs h0
      cases e
      obtain ⟨u, F1, G, F2, hF, hσ, w, k⟩ := o.ms.env.get h0
      cases hr with
      | al e1 q =>
        cases q
        rw [hσ] at e1; cases e1
        cases w with
        | @ol a vs _ h1 h2 =>
          have nd : (F1 ++ [a] ++ F2).Nodup := by
            have n := (List.nodup_append.mp o.ms.nd).1
            rw [hF] at n; exact n
          have n1 := List.nodup_append.mp nd
          have n2 := List.nodup_append.mp n1.1
          have hsub : ∀ b, Av B (F1 ++ F2) [] b → Av B F' [] b := fun b h => by
            rcases h with h | h | h
            · exact .inl h
            · exact .inr (.inl (by rw [hF]; rcases List.mem_append.mp h with h | h <;> simp [h]))
            · cases h
          have na : ¬ Av B (F1 ++ F2) [] a := fun h => by
            rcases h with h | h | h
            · exact o.ms.dj a (.inl (by rw [hF]; simp)) h
            · rcases List.mem_append.mp h with h | h
              · exact n2.2.2 a h a (List.mem_singleton.mpr rfl) rfl
              · exact n1.2.2 a (by simp) a h rfl
            · cases h
          obtain ⟨k1, _⟩ := k (fun _ => False) H' (Av B (F1 ++ F2) []) Stp.refl (fun _ h => h.elim) (fun b h => .inl (hsub b h)) fun _ _ h => h
          have x' : WR L (Av B (F1 ++ F2) []) H' (.d (.list xs)) (.ref a) [] := .d (.lst h1 na (h2.sub hsub))
          have en := k1 _ _ _ x'
          rw [set_self hσ] at en
          have inF : ∀ b, b ∈ F1 ++ F2 ∨ b ∈ ([] : List Addr) → b ∈ F' := fun b h => by
            rw [hF]
            rcases h with h | h
            · rcases List.mem_append.mp h with h | h <;> simp [h]
            · cases h
          refine ⟨F1 ++ F2, ⟨⟨by simpa using en, .cons (.w x') .nil, ?_, fun b h => o.ms.dj b (.inl (inF b h)), o.ms.al⟩, o.st, fun b h => o.nw b (.inl (inF b h))⟩⟩
          rw [List.append_nil]
          exact List.nodup_append.mpr ⟨n2.1, n1.2.1, fun b hb c hc => n1.2.2 b (by simp [hb]) c hc⟩
    · rename_i x0 h0
      cases e
      obtain ⟨u, F1, G, F2, hF, hσ, w, k⟩ := o.ms.env.get h0
      cases hr with
      | al e1 q =>
        cases q
        rw [hσ] at e1; cases e1
        cases w with
        | d w =>
          refine ⟨F', ⟨⟨o.ms.env, .cons (.w (.d w)) .nil, o.ms.nd, o.ms.dj, o.ms.al⟩, o.st, o.nw⟩⟩
    · cases e
  · cases e
theorem tE_frz {L : Ly} {f : Ev} {q : Bool} {σ : St} {H : Hp} {Q : VK} (h : tE L (fFrz f) q σ H Q) : tE L f q σ H Q := by
  obtain ⟨env, B, F, m, r, env', he, k⟩ := h
  obtain ⟨⟨r1, e1⟩, h1, he⟩ := bind_eq he
  obtain ⟨⟨x, e2⟩, h2, he⟩ := bind_eq he
  cases he
  refine ⟨env, B, F, m, r1, e1, h1, fun v H' F' T' o => ?_⟩
  obtain ⟨F2, o2⟩ := o.frz h2
  exact k v H' F2 [] o2
theorem e_frz {L : Ly} {X : Cx} {e : Expr} {f : Ev} {q : Bool} (h : PE X e (tE L f q)) : PE X e (tE L (fFrz f) q) := PE.imp h fun _ _ _ z => tE_frz z

/-! ### argument lists -/
def noStar : Expr → Bool
  | .Starred _ _ => false
  | _ => true
theorem star_cons {e : Expr} {es : List Expr} {env : PySem.Env} (h : noStar e = true) : starEach (e :: es) env = (false, eval e env) :: starEach es env := by
  cases e <;> first | rfl | cases h
theorem star_none : ∀ {es : List Expr} {pos : Pos} {env : PySem.Env}, es.all noStar = true → (backTo pos (starEach es env)).any (·.1) = false
  | [], _, _, _ => rfl
  | e :: es, pos, env, h => by
    rw [List.all_cons, Bool.and_eq_true] at h
    rw [star_cons h.1]
    show (false || (backTo pos (starEach es env)).any (·.1)) = false
    rw [star_none h.2]; rfl
def fNil : Es := fun env => .ok ([], env)
def fCons (f : Ev) (g : Es) (qg : Bool) : Es := fun env => do
  let (r, e1) ← f env
  let (rs, e2) ← g e1
  need (r.plain || qg)
  pure (r :: rs, e2)
theorem a_nil {L : Ly} {X : Cx} : PA X [] (tA L fNil true) := PA.imp pa_nil fun σ H Q h => by
  obtain ⟨env, B, F, m, rs, env', he, k⟩ := h
  cases he
  exact k [] H F [] (out_bare m Go.refl)
theorem a_cons {L : Ly} {X : Cx} {e : Expr} {es : List Expr} {f : Ev} {g : Es} {qf qg : Bool} (hs : noStar e = true) (h1 : PE X e (tE L f qf)) (h2 : PA X es (tA L g qg)) : PA X (e :: es) (tA L (fCons f g qg) (qf && qg)) :=
  PA.imp (pa_cons h1 h2 (star_cons hs)) fun σ H Q h => by
    obtain ⟨env, B, F, m, rs, env', he, k⟩ := h
    obtain ⟨⟨r, e1⟩, h1, he⟩ := bind_eq he
    obtain ⟨⟨rs', e2⟩, h2, he⟩ := bind_eq he
    obtain ⟨_, h3, he⟩ := bind_eq he
    cases he
    refine tE_next (qq := qf && qg) m (Go.refl (q := true)) h1 (.inl rfl) (fun z => by cases z) (fun z => by rw [z]; rfl) fun v1 H1 F1 T1 m1 g1 => ?_
    exact tA_next m1 g1 h2 (plain_or (need_eq h3)) id (fun z => by rw [z]; simp) fun vs H2 F2 T2 m2 g2 => k _ H2 F2 T2 (out_of m2 g2)
/-- *e: the items of a list or a tuple -/
def itemsD : PyData → Option (List PyData)
  | .list xs => some xs
  | .tuple xs => some xs
  | _ => none
def wd (x : PyData) : R := .w (.d x)
def fStarred (f : Ev) (g : Es) : Es := fun env => do
  let (r, e1) ← f env
  let x ← Rs.of (r.view e1)
  let xs ← Rs.of (itemsD x)
  let (rs, e2) ← g e1
  pure (xs.map wd ++ rs, e2)
theorem rrs_data {L : Ly} {A : AS} {H : Hp} {σ : St} : ∀ {vs : List V} {xs : List PyData}, DqAll L.K A H vs xs → RRs L A H σ (xs.map wd) vs []
  | _, _, .nil => .nil
  | _, _, .cons h t => RRs.cons (T := []) (U := []) (RR.w (.d h)) (rrs_data t)
theorem plain_data : ∀ xs : List PyData, (xs.map wd).all R.plain = true
  | [] => rfl
  | x :: xs => by rw [List.map_cons, List.all_cons, plain_data xs]; rfl
theorem a_star {L : Ly} {X : Cx} {e : Expr} {es : List Expr} {p : Pos} {f : Ev} {g : Es} {qf qg : Bool} (hK : L.K = X.K) (h1 : PE X e (tE L f qf)) (h2 : PA X es (tA L g qg)) : PA X (.Starred e p :: es) (tA L (fStarred f g) (qf && qg)) :=
  PA.imp (StX.pa_star h1 h2 rfl) fun σ H Q h => by
    obtain ⟨env, B, F, m, rs, env', he, k⟩ := h
    obtain ⟨⟨r, e1⟩, h1, he⟩ := bind_eq he
    obtain ⟨x, h2, he⟩ := bind_eq he
    obtain ⟨xs, h3, he⟩ := bind_eq he
    obtain ⟨⟨rs', e2⟩, h4, he⟩ := bind_eq he
    cases he
    refine tE_next (qq := qf && qg) m (Go.refl (q := true)) h1 (.inl rfl) (fun z => by cases z) (fun z => by rw [z]; rfl) fun v1 H1 F1 T1 m1 g1 => ?_
    have dv := R.view_ok m1.env m1.res1 (of_eq h2)
    have key : ∃ a vs, v1 = .ref a ∧ (SqT X.K H1 a vs ∨ SqL X.K H1 a vs) ∧ DqAll L.K (Av B F1 T1) H1 vs xs := by
      rw [← hK]
      cases x with
      | list ys =>
        cases of_eq h3
        obtain ⟨a, vs, e, h, d⟩ := dv.list
        exact ⟨a, vs, e, .inr (SqL.of h), d⟩
      | tuple ys =>
        cases of_eq h3
        obtain ⟨a, vs, e, h, d⟩ := dv.tup
        exact ⟨a, vs, e, .inl h, d⟩
      | _ => cases h3
    obtain ⟨a, vs, e, hq, d⟩ := key
    refine ⟨a, vs, e, hq, ?_⟩
    have d' : DqAll L.K (Av B F1 []) H1 vs xs := d.sub fun b z => by
      rcases z with z | z | z
      · exact .inl z
      · exact .inr (.inl z)
      · cases z
    have m2 : MS L B e1 σ H1 F1 (xs.map wd) vs [] := { m1.bare with res := rrs_data d' }
    refine tA_next m2 g1.drop h4 (.inl (plain_data xs)) id (fun z => by rw [z]; simp) fun ws H2 F2 T2 m3 g3 => k _ H2 F2 T2 (out_of m3 g3)
/-! ### displays -/
def dataR : List R → Option (List PyData)
  | [] => some []
  | .w (.d x) :: rs => (dataR rs).map (x :: ·)
  | _ :: _ => none
def fTup (g : Es) : Ev := fun env => do
  let (rs, e1) ← g env
  let ds ← Rs.of (dataR rs)
  need (decide (ds.length ≤ SZ))
  pure (.w (.d (.tuple ds)), e1)
def fLst (g : Es) : Ev := fun env => do
  let (rs, e1) ← g env
  let ds ← Rs.of (dataR rs)
  need (decide (ds.length ≤ SZ))
  pure (.w (.ol ds), e1)
theorem data_of {L : Ly} {A : AS} {H : Hp} {σ : St} : ∀ {rs : List R} {vs : List V} {T : List Addr} {ds : List PyData}, RRs L A H σ rs vs T → dataR rs = some ds → DqAll L.K A H vs ds
  | _, _, _, _, .nil, e => by cases e; exact .nil
  | _, _, _, ds, .cons (r := r) x t, e => by
    unfold dataR at e
    split at e
    · rename_i h; cases h
    · rename_i x0 rs0 h
      cases h
      obtain ⟨ds', h', rfl⟩ := Option.map_eq_some_iff.mp e
      cases x with
      | w x =>
        cases x with
        | d x => exact .cons x (data_of t h')
    · cases e
theorem e_tup {L : Ly} {X : Cx} {es : List Expr} {k0 : Nat} {pos : Pos} {g : Es} {q : Bool} (h : PA X es (tA L g q)) : PE X (.Tuple es k0 pos) (tE L (fTup g) q) := PE.imp (pe_tup h) fun σ H Q h => by
  obtain ⟨env, B, F, m, r, env', he, k⟩ := h
  obtain ⟨⟨rs, e1⟩, h1, he⟩ := bind_eq he
  obtain ⟨ds, h2, he⟩ := bind_eq he
  obtain ⟨_, h3, he⟩ := bind_eq he
  cases he
  refine tA_next (qq := q) m (Go.refl (q := true)) h1 (.inl rfl) (fun z => by cases z) id fun vs H1 F1 T1 m1 g1 => ?_
  have d := data_of (by simpa using m1.res) (of_eq h2)
  refine ⟨by rw [d.length]; exact le_SZ (need_eq h3), fun p hp => new_tup (A := Av B F1 T1) (Q := Q) (fun v H' U hs hx hn hf => ?_) d hp⟩
  exact k v H' F1 U (out_made m1 g1 hs (hx.sub av_new) hn hf)
theorem e_lst {L : Ly} {X : Cx} {es : List Expr} {pos : Pos} {g : Es} {q : Bool} (h : PA X es (tA L g q)) : PE X (.List es pos) (tE L (fLst g) q) := PE.imp (pe_lst h) fun σ H Q h => by
  obtain ⟨env, B, F, m, r, env', he, k⟩ := h
  obtain ⟨⟨rs, e1⟩, h1, he⟩ := bind_eq he
  obtain ⟨ds, h2, he⟩ := bind_eq he
  obtain ⟨_, h3, he⟩ := bind_eq he
  cases he
  refine tA_next (qq := q) m (Go.refl (q := true)) h1 (.inl rfl) (fun z => by cases z) id fun vs H1 F1 T1 m1 g1 => ?_
  have d := data_of (by simpa using m1.res) (of_eq h2)
  refine ⟨by rw [d.length]; exact le_SZ (need_eq h3), fun p hp => new_lst (A := Av B F1 T1) (Q := Q) (fun v H' U hs hx hn hf => ?_) d hp⟩
  exact k v H' F1 U (out_made m1 g1 hs (hx.sub av_new) hn hf)

/-! ### looking at what is owned, too -/
def R.look (env : Env) : R → Option W
  | .w x => some x
  | .al i p => Env.at env i p
/-- w stands at v, wherever its own things lie -/
def WV (L : Ly) (A : AS) (H : Hp) (w : W) (v : V) : Prop := ∃ F, WR L A H w v F
theorem R.look_ok {L : Ly} {A : AS} {env : Env} {σ : St} {H : Hp} {F T : List Addr} {r : R} {v : V} {w : W} (h : EnvR L A H env σ F) (x : RR L A H σ r v T) (e : r.look env = some w) : WV L A H w v := by
  cases x with
  | w x => cases e; exact ⟨_, x⟩
  | al e1 q =>
    obtain ⟨G, y, _⟩ := h.at (T := []) (show Env.at env _ _ = some w from e) (.al e1 q)
    exact ⟨G, y⟩
/-- an operation on a thing and a datum -/
abbrev OpW := W → PyData → Option W
def fW2 (o : OpW) (fa fb : Ev) (qb : Bool) : Ev := fun env => do
  let (ra, e1) ← fa env
  let (rb, e2) ← fb e1
  need (ra.plain || qb)
  let x ← Rs.of (ra.look e2)
  let y ← Rs.of (rb.view e2)
  let w ← Rs.of (o x y)
  pure (.w w, e2)
def rW (L : Ly) (o : OpW) : R2 := fun x y H Q => ∃ A wx dy w, WV L A H wx x ∧ DV L.K A H y dy ∧ o wx dy = some w ∧ (∀ a, A a → H a ≠ none) ∧
  ∀ v H' U, Same H H' → WR L (fun a => A a ∨ a ∈ U) H' w v U → U.Nodup → (∀ a ∈ U, H a = none) → Q v H'
theorem tW2 {L : Ly} {o : OpW} {fa fb : Ev} {qa qb : Bool} {σ : St} {H : Hp} {Q : VK} (h : tE L (fW2 o fa fb qb) (qa && qb) σ H Q) : tOp (rW L o) (tE L fa qa) (tE L fb qb) σ H Q := by
  obtain ⟨env, B, F, m, r, env', he, k⟩ := h
  obtain ⟨⟨ra, e1⟩, h1, he⟩ := bind_eq he
  obtain ⟨⟨rb, e2⟩, h2, he⟩ := bind_eq he
  obtain ⟨_, h3, he⟩ := bind_eq he
  obtain ⟨x, h4, he⟩ := bind_eq he
  obtain ⟨y, h5, he⟩ := bind_eq he
  obtain ⟨w, h6, he⟩ := bind_eq he
  cases he
  refine tE_next (qq := qa && qb) m (Go.refl (q := true)) h1 (.inl rfl) (fun z => by cases z) (fun z => by rw [z]; rfl) fun v1 H1 F1 T1 m1 g1 => ?_
  refine tE_next m1 g1 h2 (plain_or (need_eq h3)) id (fun z => by rw [z]; simp) fun v2 H2 F2 T2 m2 g2 => ?_
  obtain ⟨Ta, Tb, _, xa, xb⟩ := MS.res2 m2
  refine ⟨_, x, y, w, R.look_ok m2.env xa (of_eq h4), R.view_ok m2.env xb (of_eq h5), of_eq h6, m2.there, fun v H' U hs hx hn hf => ?_⟩
  exact k v H' F2 U (out_made m2 g2 hs (hx.sub av_new) hn hf)
theorem e_ix {L : Ly} {X : Cx} {a b : Expr} {pos : Pos} {o : OpW} {fa fb : Ev} {qa qb : Bool} (ho : IxR X (rW L o)) (ha : PE X a (tE L fa qa)) (hb : PE X b (tE L fb qb)) (hs : PlainIx b) :
    PE X (.Subscript a b pos) (tE L (fW2 o fa fb qb) (qa && qb)) := PE.imp (pe_ix ho ha hb hs) fun _ _ _ h => tW2 h
theorem WV.view {L : Ly} {A : AS} {H : Hp} {w : W} {v : V} {d : PyData} (h : WV L A H w v) (e : w.view = some d) : DV L.K A H v d := h.elim fun _ h => h.view e
/-- the item at a place -/
def dIx : OpW
  | .d (.list xs), .int i => (atI xs i).map .d
  | .d (.tuple xs), .int i => (atI xs i).map .d
  | .ol xs, .int i => (atI xs i).map .d
  | .d (.str z), .int i => if decide (z.length ≤ SZ) then (atI z.cps.toList i).map fun c => .d (.str ⟨#[c]⟩) else none
  | _, _ => none
theorem DqAll.atI {K : PySem.W.Frag} {A : AS} {H : Hp} {vs : List V} {ds : List PyData} {i : Int} {d : PyData} (h : DqAll K A H vs ds) (e : L2.atI ds i = some d) : ∃ v, L2.atI vs i = some v ∧ Dq K A H v d := by
  unfold L2.atI at e ⊢
  rw [h.length]
  obtain ⟨j, hj, e⟩ := Option.bind_eq_some_iff.mp e
  obtain ⟨v, hv, r⟩ := h.get e
  exact ⟨v, by rw [hj]; exact hv, r⟩
theorem ix_D {L : Ly} {X : Cx} (hK : L.K = X.K) : IxR X (rW L dIx) := by
  intro value slice pins s σ H x y v u Q I rx ry h hs
  obtain ⟨A, wx, dy, w, hx, hy, e, hA, k⟩ := h
  have lst : ∀ xs i, DV L.K A H x (.list xs) → dy = .int i → (L2.atI xs i).map .d = some w → wpAny (model X.prog X.w) X.A (subscriptTail value slice v u) (EP X pins σ Q) X.xe s := fun xs i hx e1 e2 => by
    subst e1
    obtain ⟨d, hd, rfl⟩ := Option.map_eq_some_iff.mp e2
    obtain ⟨a, vs, rfl, ha, r⟩ := hx.list
    obtain rfl := hy.int
    obtain ⟨z, hz, rz⟩ := r.atI hd
    exact ix_list value slice pins s σ H _ _ v u Q I rx ry ⟨a, vs, i, z, rfl, rfl, SqL.of ha, hz, new_d k rz⟩ hs
  unfold dIx at e
  split at e
  · rename_i xs i
    exact lst xs i (hx.view rfl) rfl e
  · rename_i xs i
    obtain ⟨d, hd, rfl⟩ := Option.map_eq_some_iff.mp e
    obtain ⟨a, vs, rfl, ha, r⟩ := (hx.view (d := .tuple xs) rfl).tup
    obtain rfl := hy.int
    obtain ⟨z, hz, rz⟩ := r.atI hd
    exact ix_tup value slice pins s σ H _ _ v u Q I rx ry ⟨a, vs, i, z, rfl, rfl, by rw [← hK]; exact ha, hz, new_d k rz⟩ hs
  · rename_i xs i
    exact lst xs i (hx.view rfl) rfl e
  · rename_i z i
    split at e
    · rename_i hz
      obtain ⟨c, hc, rfl⟩ := Option.map_eq_some_iff.mp e
      obtain rfl := (hx.view (d := .str z) rfl).str
      obtain rfl := hy.int
      exact ix_str value slice pins s σ H _ _ v u Q I rx ry ⟨z, i, c, rfl, rfl, le_SZ hz, hc, new_d k (.str _)⟩ hs
    · cases e
  · cases e

/-! ### slices -/
abbrev Pv := Env → Rs (Option Int × Env)
def tO (L : Ly) (f : Pv) (q : Bool) : TO := fun σ H Q => ∃ env B F, MS L B env σ H F [] [] [] ∧ ∃ o env', f env = .ok (o, env') ∧ ∀ H' F', Out L B σ q H F [] env' [] H' F' [] → Q o H'
theorem PO.imp {X : Cx} {e : Option Expr} {t t' : TO} (h : PO X e t) (i : ∀ σ H Q, t' σ H Q → t σ H Q) : PO X e t' := ⟨fun pins s σ H Q I hq => h.run pins s σ H Q I (i σ H Q hq)⟩
def fNoPart : Pv := fun env => .ok (none, env)
def fPart (f : Ev) : Pv := fun env => do
  let (r, e1) ← f env
  match r.view e1 with
  | some (.int i) => pure (some i, e1)
  | _ => .fail
theorem o_none {L : Ly} {X : Cx} : PO X none (tO L fNoPart true) := PO.imp po_none fun σ H Q h => by
  obtain ⟨env, B, F, m, o, env', he, k⟩ := h
  cases he
  exact k H F (out_bare m Go.refl)
theorem o_some {L : Ly} {X : Cx} {e : Expr} {f : Ev} {q : Bool} (h : PE X e (tE L f q)) : PO X (some e) (tO L (fPart f) q) := PO.imp (po_some h) fun σ H Q h => by
  obtain ⟨env, B, F, m, o, env', he, k⟩ := h
  obtain ⟨⟨r, e1⟩, h1, he⟩ := bind_eq he
  refine ⟨env, B, F, m, r, e1, h1, fun v H' F' T' oo => ?_⟩
  dsimp only at he
  split at he
  · rename_i i hv
    cases he
    obtain rfl := (R.view_ok oo.ms.env oo.ms.res1 hv).int
    exact ⟨i, rfl, k H' F' (out_bare oo.ms ⟨oo.st, oo.nw⟩)⟩
  · cases he
theorem tO_next {L : Ly} {B : AS} {env env' : Env} {σ : St} {H : Hp} {F T : List Addr} {rs : List R} {vs : List V} {q q' qq : Bool} {H0 : Hp} {F0 : List Addr} {f : Pv} {b : Option Int} {Q : Option Int → Hp → Prop} (m : MS L B env σ H F rs vs T) (g : Go q H0 F0 H F T) (he : f env = .ok (b, env')) (hp : rs.all R.plain = true ∨ q' = true) (h1 : q = false → qq = false) (h2 : q' = false → qq = false)
    (k : ∀ H' F' T', MS L B env' σ H' F' rs vs T' → Go qq H0 F0 H' F' T' → Q b H') : tO L f q' σ H Q :=
  ⟨env, _, F, m.fresh, b, env', he, fun H' F' o => k H' F' _ (by simpa using m.next o hp) (g.next o h1 h2)⟩
def cutG {α : Type} (xs : List α) (lo hi : Option Int) : List α := (xs.drop (HT.sIx xs.length 0 lo)).take (HT.sIx xs.length xs.length hi - HT.sIx xs.length 0 lo)
theorem DqAll.cut {K : PySem.W.Frag} {A : AS} {H : Hp} {vs : List V} {ds : List PyData} (h : DqAll K A H vs ds) (lo hi : Option Int) : DqAll K A H (cutV vs lo hi) (cutG ds lo hi) := by
  unfold cutV cutG
  rw [h.length]
  exact (h.drop _).take _
def oSl : W → Option Int → Option Int → Option W
  | .d (.list xs), lo, hi => some (.ol (cutG xs lo hi))
  | .ol xs, lo, hi => some (.ol (cutG xs lo hi))
  | .fl xs, lo, hi => some (.ol (cutG xs lo hi))
  | .d (.tuple xs), lo, hi => some (.d (.tuple (cutG xs lo hi)))
  | .d (.str z), lo, hi => if decide (z.length ≤ SZ) then some (.d (.str (cutS z lo hi))) else none
  | _, _, _ => none
def fSl (f : Ev) (g h : Pv) (qg qh : Bool) : Ev := fun env => do
  let (r, e1) ← f env
  let (lo, e2) ← g e1
  let (hi, e3) ← h e2
  need (r.plain || (qg && qh))
  let x ← Rs.of (r.look e3)
  let w ← Rs.of (oSl x lo hi)
  pure (.w w, e3)
def rSl (L : Ly) : V → Option Int → Option Int → Hp → VK → Prop := fun x lo hi H Q => ∃ A wx w, WV L A H wx x ∧ oSl wx lo hi = some w ∧ (∀ a, A a → H a ≠ none) ∧
  ∀ v H' U, Same H H' → WR L (fun a => A a ∨ a ∈ U) H' w v U → U.Nodup → (∀ a ∈ U, H a = none) → Q v H'
theorem cut_all {α : Type} {xs : List α} {lo hi : Option Int} (h : HT.sIx xs.length 0 lo = 0 ∧ HT.sIx xs.length xs.length hi = xs.length) : cutG xs lo hi = xs := by
  unfold cutG
  rw [h.1, h.2]
  simp
theorem sl_D {L : Ly} {X : Cx} (hK : L.K = X.K) : SlR X (rSl L) := by
  intro pins s σ H x v vl vu lo hi sl Q I rx hs pl pu h
  obtain ⟨A, wx, w, hx, e, hA, k⟩ := h
  unfold oSl at e
  split at e
  · cases e
    obtain ⟨a, vs, rfl, ha, r⟩ := (hx.view rfl).list
    exact sl_list pins s σ H _ v vl vu lo hi sl Q I rx hs pl pu ⟨a, vs, rfl, SqL.of ha, fun p hp => new_lst k (r.cut lo hi) hp⟩
  · cases e
    obtain ⟨a, vs, rfl, ha, r⟩ := (hx.view rfl).list
    exact sl_list pins s σ H _ v vl vu lo hi sl Q I rx hs pl pu ⟨a, vs, rfl, SqL.of ha, fun p hp => new_lst k (r.cut lo hi) hp⟩
  · cases e
    obtain ⟨F, hx⟩ := hx
    cases hx with
    | fl ha r => exact sl_list pins s σ H _ v vl vu lo hi sl Q I rx hs pl pu ⟨_, _, rfl, by rw [← hK]; exact ha.sq, fun p hp => new_lst k (r.cut lo hi) hp⟩
  · rename_i xs
    cases e
    obtain ⟨a, vs, rfl, ha, r⟩ := (hx.view (d := .tuple xs) rfl).tup
    refine sl_tupA pins s σ H _ v vl vu lo hi sl Q I rx hs pl pu ⟨a, vs, rfl, by rw [← hK]; exact ha, fun hz => ?_, fun _ p hp => new_tup k (r.cut lo hi) hp⟩
    rw [r.length] at hz
    refine new_d k ?_
    rw [cut_all hz]
    exact .tup ha r
  · rename_i z
    split at e
    · rename_i hz
      cases e
      obtain rfl := (hx.view (d := .str z) rfl).str
      exact sl_str pins s σ H _ v vl vu lo hi sl Q I rx hs pl pu ⟨z, rfl, le_SZ hz, new_d k (.str _)⟩
    · cases e
  · cases e
theorem e_slice {L : Ly} {X : Cx} {a : Expr} {lo hi : Option Expr} {p2 pos : Pos} {f : Ev} {g h : Pv} {qf qg qh : Bool} (hK : L.K = X.K) (ha : PE X a (tE L f qf)) (hl : PO X lo (tO L g qg)) (hu : PO X hi (tO L h qh)) :
    PE X (.Subscript a (.Slice lo hi none p2) pos) (tE L (fSl f g h qg qh) (qf && qg && qh)) := PE.imp (pe_slice (sl_D hK) ha hl hu) fun σ H Q hh => by
  obtain ⟨env, B, F, m, r, env', he, k⟩ := hh
  obtain ⟨⟨ra, e1⟩, h1, he⟩ := bind_eq he
  obtain ⟨⟨lo, e2⟩, h2, he⟩ := bind_eq he
  obtain ⟨⟨hi, e3⟩, h3, he⟩ := bind_eq he
  obtain ⟨_, h4, he⟩ := bind_eq he
  obtain ⟨x, h5, he⟩ := bind_eq he
  obtain ⟨w, h6, he⟩ := bind_eq he
  cases he
  have hp := plain_or (need_eq h4)
  refine tE_next (qq := qf && qg && qh) m (Go.refl (q := true)) h1 (.inl rfl) (fun z => by cases z) (fun z => by rw [z]; rfl) fun v1 H1 F1 T1 m1 g1 => ?_
  refine tO_next m1 g1 h2 (hp.imp id fun z => (Bool.and_eq_true_iff.mp z).1) id (fun z => by rw [z]; simp) fun H2 F2 T2 m2 g2 => ?_
  refine tO_next m2 g2 h3 (hp.imp id fun z => (Bool.and_eq_true_iff.mp z).2) id (fun z => by rw [z]; simp) fun H3 F3 T3 m3 g3 => ?_
  refine ⟨_, x, w, R.look_ok m3.env m3.res1 (of_eq h5), of_eq h6, m3.there, fun v H' U hs hx hn hf => ?_⟩
  exact k v H' F3 U (out_made m3 g3 hs (hx.sub av_new) hn hf)
end Rf
end

section
set_option Elab.async false
set_option linter.all false
set_option maxRecDepth 10000
/-! Calls of built-in functions and classes by name, isinstance; methods of lists. -/
namespace Rf
open PySem PySem.Spec PyProof.Rows L2

abbrev OpL := List W → Option W
def looks (env : Env) : List R → Option (List W)
  | [] => some []
  | r :: rs => match r.look env, looks env rs with
    | some w, some ws => some (w :: ws)
    | _, _ => none
def fCall (o : OpL) (g : Es) : Ev := fun env => do
  let (rs, e1) ← g env
  let ws ← Rs.of (looks e1 rs)
  let w ← Rs.of (o ws)
  pure (.w w, e1)
inductive WVs (L : Ly) (A : AS) (H : Hp) : List W → List V → Prop
  | nil : WVs L A H [] []
  | cons {w : W} {v : V} {ws : List W} {vs : List V} : WV L A H w v → WVs L A H ws vs → WVs L A H (w :: ws) (v :: vs)
theorem looks_ok {L : Ly} {A : AS} {env : Env} {σ : St} {H : Hp} {F : List Addr} (h : EnvR L A H env σ F) : ∀ {rs : List R} {vs : List V} {T : List Addr} {ws : List W}, RRs L A H σ rs vs T → looks env rs = some ws → WVs L A H ws vs
  | _, _, _, _, .nil, e => by cases e; exact .nil
  | _, _, _, _, .cons x t, e => by
    unfold looks at e
    split at e
    · rename_i w ws h1 h2
      cases e
      exact .cons (R.look_ok h x h1) (looks_ok h t h2)
    · cases e
def rC (L : Ly) (o : OpL) : List V → Hp → VK → Prop := fun vs H Q => ∃ A ws w, WVs L A H ws vs ∧ o ws = some w ∧ (∀ a, A a → H a ≠ none) ∧
  ∀ v H' U, Same H H' → WR L (fun a => A a ∨ a ∈ U) H' w v U → U.Nodup → (∀ a ∈ U, H a = none) → Q v H'
theorem tCB_of {L : Ly} {o : OpL} {g : Es} {q : Bool} {σ : St} {H : Hp} {Q : VK} (h : tE L (fCall o g) q σ H Q) : tCB (rC L o) (tA L g q) σ H Q := by
  obtain ⟨env, B, F, m, r, env', he, k⟩ := h
  obtain ⟨⟨rs, e1⟩, h1, he⟩ := bind_eq he
  obtain ⟨ws, h2, he⟩ := bind_eq he
  obtain ⟨w, h3, he⟩ := bind_eq he
  cases he
  refine tA_next (qq := q) m (Go.refl (q := true)) h1 (.inl rfl) (fun z => by cases z) id fun vs H1 F1 T1 m1 g1 => ?_
  refine ⟨_, ws, w, looks_ok m1.env (by simpa using m1.res) (of_eq h2), of_eq h3, m1.there, fun v H' U hs hx hn hf => ?_⟩
  exact k v H' F1 U (out_made m1 g1 hs (hx.sub av_new) hn hf)
theorem e_callB {L : Ly} {X : Cx} {x : Str} {p pos : Pos} {e : Expr} {es : List Expr} {id : String} {o : OpL} {g : Es} {q : Bool} (hc : CallR X (.builtin id) (rC L o)) (hg : Gl X x) (hm : X.mg x = none) (hv : bootBuiltins x = some (.builtin id)) (hn : x ≠ "__name__") (hd : (x == ("__debug__" : Str)) = false)
    (hs : (e :: es).all noStar = true) (ha : PA X (e :: es) (tA L g q)) : PE X (.Call (.Name x p) (e :: es) [] pos) (tE L (fCall o g) q) :=
  PE.imp (pe_callB hc hg hm hv ha hn hd (star_cons (by rw [List.all_cons, Bool.and_eq_true] at hs; exact hs.1)) (star_none (by rw [List.all_cons, Bool.and_eq_true] at hs; exact hs.2))) fun _ _ _ h => tCB_of h
theorem e_callTy {L : Ly} {X : Cx} {x : Str} {p pos : Pos} {e : Expr} {es : List Expr} {id : String} {o : OpL} {g : Es} {q : Bool} (hc : CallR X (.type id) (rC L o)) (hg : Gl X x) (hm : X.mg x = none) (hv : bootBuiltins x = some (.type id)) (hn : x ≠ "__name__") (hd : (x == ("__debug__" : Str)) = false)
    (hs : (e :: es).all noStar = true) (ha : PA X (e :: es) (tA L g q)) : PE X (.Call (.Name x p) (e :: es) [] pos) (tE L (fCall o g) q) :=
  PE.imp (pe_callTy hc hg hm hv ha hn hd (star_cons (by rw [List.all_cons, Bool.and_eq_true] at hs; exact hs.1)) (star_none (by rw [List.all_cons, Bool.and_eq_true] at hs; exact hs.2))) fun _ _ _ h => tCB_of h
theorem wv1 {L : Ly} {A : AS} {H : Hp} {w : W} {vs : List V} (h : WVs L A H [w] vs) : ∃ v, vs = [v] ∧ WV L A H w v := by
  cases h with
  | cons h t => cases t; exact ⟨_, rfl, h⟩
theorem wv2 {L : Ly} {A : AS} {H : Hp} {w x : W} {vs : List V} (h : WVs L A H [w, x] vs) : ∃ v u, vs = [v, u] ∧ WV L A H w v ∧ WV L A H x u := by
  cases h with
  | cons h t =>
    cases t with
    | cons g t => cases t; exact ⟨_, _, rfl, h, g⟩

/-! #### len -/
def lenW : W → Option Nat
  | .d (.str z) => if decide (z.length ≤ SZ) then some z.length else none
  | .d (.list xs) => some xs.length
  | .d (.tuple xs) => some xs.length
  | .ol xs => some xs.length
  | .fl xs => some xs.length
  | _ => none
def oLen : OpL
  | [w] => (lenW w).map fun (n : Nat) => W.d (.int (n : Int))
  | _ => none
theorem call_lenD {L : Ly} {X : Cx} (hK : L.K = X.K) : CallR X (.builtin "len") (rC L oLen) := by
  intro pins s σ H vs us Q I r h
  obtain ⟨A, ws, w, hv, e, hA, k⟩ := h
  unfold oLen at e
  split at e
  · rename_i w0
    obtain ⟨n, hn, rfl⟩ := Option.map_eq_some_iff.mp e
    obtain ⟨v, rfl, h0⟩ := wv1 hv
    have fin : LenV X.K v H n → wpAny (model X.prog X.w) X.A (call (.builtin "len") us) (EP X pins σ Q) X.xe s := fun z =>
      call_len pins s σ H _ us Q I r ⟨v, n, rfl, z, new_d k (.int _)⟩
    unfold lenW at hn
    split at hn
    · rename_i z
      split at hn
      · rename_i hz
        cases hn
        obtain rfl := (h0.view (d := .str z) rfl).str
        exact fin ⟨le_SZ hz, rfl⟩
      · cases hn
    · rename_i xs
      cases hn
      obtain ⟨a, ys, rfl, ha, rr⟩ := (h0.view (d := .list xs) rfl).list
      exact fin (.inl ⟨ys, SqL.of ha, rr.length.symm⟩)
    · rename_i xs
      cases hn
      obtain ⟨a, ys, rfl, ha, rr⟩ := (h0.view (d := .tuple xs) rfl).tup
      exact fin (.inr ⟨ys, by rw [← hK]; exact ha, rr.length.symm⟩)
    · rename_i xs
      cases hn
      obtain ⟨a, ys, rfl, ha, rr⟩ := (h0.view (d := .list xs) rfl).list
      exact fin (.inl ⟨ys, SqL.of ha, rr.length.symm⟩)
    · rename_i xs
      cases hn
      obtain ⟨F, h0⟩ := h0
      cases h0 with
      | fl ha rr => exact fin (.inl ⟨_, by rw [← hK]; exact ha.sq, rr.length.symm⟩)
    · cases hn
  · cases e
/-! #### int, tuple, list -/
def oInt : OpL
  | [.d (.int i)] => some (.d (.int i))
  | [.d (.bool b)] => some (.d (.int (if b then 1 else 0)))
  | [.d (.str x)] => if decide (x.length ≤ 640) then (intText? x).map fun n => .d (.int n) else none
  | _ => none
theorem call_intD {L : Ly} {X : Cx} : CallR X (.type "int") (rC L oInt) := by
  intro pins s σ H vs us Q I r h
  obtain ⟨A, ws, w, hv, e, hA, k⟩ := h
  unfold oInt at e
  split at e
  · rename_i i
    cases e
    obtain ⟨v, rfl, h0⟩ := wv1 hv
    obtain rfl := (h0.view (d := .int i) rfl).int
    exact call_int1 pins s σ H _ us Q I r (.inl ⟨i, rfl, new_d k (.int _)⟩)
  · rename_i b
    cases e
    obtain ⟨v, rfl, h0⟩ := wv1 hv
    obtain rfl := (h0.view (d := .bool b) rfl).bl
    exact call_int1 pins s σ H _ us Q I r (.inr ⟨b, rfl, new_d k (.int _)⟩)
  · rename_i x
    split at e
    · rename_i hz
      obtain ⟨n, hn, rfl⟩ := Option.map_eq_some_iff.mp e
      obtain ⟨v, rfl, h0⟩ := wv1 hv
      obtain rfl := (h0.view (d := .str x) rfl).str
      exact call_int_str pins s σ H _ us Q I r ⟨x, n, rfl, hn, of_decide_eq_true hz, new_d k (.int _)⟩
    · cases e
  · cases e
def seqW : W → Option (List PyData)
  | .d (.list xs) => some xs
  | .d (.tuple xs) => some xs
  | .ol xs => some xs
  | _ => none
theorem WV.seq {L : Ly} {A : AS} {H : Hp} {w : W} {v : V} {xs : List PyData} (h : WV L A H w v) (e : seqW w = some xs) : ∃ a vs, v = .ref a ∧ (SqL L.K H a vs ∨ SqT L.K H a vs) ∧ DqAll L.K A H vs xs := by
  unfold seqW at e
  split at e
  · rename_i ys
    cases e
    obtain ⟨a, vs, e1, ha, r⟩ := (h.view (d := .list xs) rfl).list
    exact ⟨a, vs, e1, .inl (SqL.of ha), r⟩
  · rename_i ys
    cases e
    obtain ⟨a, vs, e1, ha, r⟩ := (h.view (d := .tuple xs) rfl).tup
    exact ⟨a, vs, e1, .inr ha, r⟩
  · rename_i ys
    cases e
    obtain ⟨a, vs, e1, ha, r⟩ := (h.view (d := .list xs) rfl).list
    exact ⟨a, vs, e1, .inl (SqL.of ha), r⟩
  · cases e
def oTuple : OpL
  | [w] => (seqW w).map fun xs => .d (.tuple xs)
  | _ => none
theorem call_tupleD {L : Ly} {X : Cx} (hK : L.K = X.K) : CallR X (.type "tuple") (rC L oTuple) := by
  intro pins s σ H vs us Q I r h
  obtain ⟨A, ws, w, hv, e, hA, k⟩ := h
  unfold oTuple at e
  split at e
  · obtain ⟨xs, hx, rfl⟩ := Option.map_eq_some_iff.mp e
    obtain ⟨v, rfl, h0⟩ := wv1 hv
    obtain ⟨a, ys, rfl, ha, rr⟩ := h0.seq hx
    rcases ha with ha | ha
    · exact call_tuple_of pins s σ H _ us Q I r ⟨a, ys, rfl, .inl ⟨by rw [← hK]; exact ha, fun p hp => new_tup k rr hp⟩⟩
    · exact call_tuple_of pins s σ H _ us Q I r ⟨a, ys, rfl, .inr ⟨by rw [← hK]; exact ha, new_d k (.tup ha rr)⟩⟩
  · cases e
def oList : OpL
  | [w] => (seqW w).map fun xs => .ol xs
  | _ => none
theorem call_listD {L : Ly} {X : Cx} (hK : L.K = X.K) : CallR X (.type "list") (rC L oList) := by
  intro pins s σ H vs us Q I r h
  obtain ⟨A, ws, w, hv, e, hA, k⟩ := h
  unfold oList at e
  split at e
  · obtain ⟨xs, hx, rfl⟩ := Option.map_eq_some_iff.mp e
    obtain ⟨v, rfl, h0⟩ := wv1 hv
    obtain ⟨a, ys, rfl, ha, rr⟩ := h0.seq hx
    rcases ha with ha | ha
    · exact call_list_of pins s σ H _ us Q I r ⟨a, ys, rfl, .inl (by rw [← hK]; exact ha), fun p hp => new_lst k rr hp⟩
    · exact call_list_of pins s σ H _ us Q I r ⟨a, ys, rfl, .inr (by rw [← hK]; exact ha), fun p hp => new_lst k rr hp⟩
  · cases e
/-! #### all, any, sum, min, max over lists -/
def boolsD : List PyData → Option (List Bool)
  | [] => some []
  | .bool b :: xs => (boolsD xs).map (b :: ·)
  | _ :: _ => none
def intsD : List PyData → Option (List Int)
  | [] => some []
  | .int b :: xs => (intsD xs).map (b :: ·)
  | _ :: _ => none
theorem DqAll.bools {K : PySem.W.Frag} {A : AS} {H : Hp} : ∀ {vs : List V} {ds : List PyData} {bs : List Bool}, DqAll K A H vs ds → boolsD ds = some bs → vs = bs.map V.bl
  | _, _, _, .nil, e => by cases e; rfl
  | _, _, _, .cons h t, e => by
    unfold boolsD at e
    split at e
    · rename_i q; cases q
    · rename_i q
      cases q
      obtain ⟨bs, hb, rfl⟩ := Option.map_eq_some_iff.mp e
      cases h
      rw [DqAll.bools t hb]; rfl
    · cases e
theorem DqAll.ints {K : PySem.W.Frag} {A : AS} {H : Hp} : ∀ {vs : List V} {ds : List PyData} {bs : List Int}, DqAll K A H vs ds → intsD ds = some bs → vs = bs.map V.int
  | _, _, _, .nil, e => by cases e; rfl
  | _, _, _, .cons h t, e => by
    unfold intsD at e
    split at e
    · rename_i q; cases q
    · rename_i q
      cases q
      obtain ⟨bs, hb, rfl⟩ := Option.map_eq_some_iff.mp e
      cases h
      rw [DqAll.ints t hb]; rfl
    · cases e
def lstW : W → Option (List PyData)
  | .d (.list xs) => some xs
  | .ol xs => some xs
  | _ => none
theorem WV.lst {L : Ly} {A : AS} {H : Hp} {w : W} {v : V} {xs : List PyData} (h : WV L A H w v) (e : lstW w = some xs) : ∃ a vs, v = .ref a ∧ H a = some (.lst vs) ∧ DqAll L.K A H vs xs := by
  unfold lstW at e
  split at e
  · cases e; exact (h.view (d := .list xs) rfl).list
  · cases e; exact (h.view (d := .list xs) rfl).list
  · cases e
def oBools (f : List Bool → Bool) : OpL
  | [w] => ((lstW w).bind boolsD).map fun bs => .d (.bool (f bs))
  | _ => none
theorem call_allD {L : Ly} {X : Cx} (hc : X.calm = true) : CallR X (.builtin "all") (rC L (oBools fun bs => bs.all id)) := by
  intro pins s σ H vs us Q I r h
  obtain ⟨A, ws, w, hv, e, hA, k⟩ := h
  unfold oBools at e
  split at e
  · obtain ⟨bs, hx, rfl⟩ := Option.map_eq_some_iff.mp e
    obtain ⟨xs, hx, hb⟩ := Option.bind_eq_some_iff.mp hx
    obtain ⟨v, rfl, h0⟩ := wv1 hv
    obtain ⟨a, ys, rfl, ha, rr⟩ := h0.lst hx
    rw [rr.bools hb] at ha
    exact cr_all hc pins s σ H _ us Q I r ⟨a, bs, rfl, SqL.of ha, new_d k (.bl _)⟩
  · cases e
theorem call_anyD {L : Ly} {X : Cx} (hc : X.calm = true) : CallR X (.builtin "any") (rC L (oBools fun bs => bs.any id)) := by
  intro pins s σ H vs us Q I r h
  obtain ⟨A, ws, w, hv, e, hA, k⟩ := h
  unfold oBools at e
  split at e
  · obtain ⟨bs, hx, rfl⟩ := Option.map_eq_some_iff.mp e
    obtain ⟨xs, hx, hb⟩ := Option.bind_eq_some_iff.mp hx
    obtain ⟨v, rfl, h0⟩ := wv1 hv
    obtain ⟨a, ys, rfl, ha, rr⟩ := h0.lst hx
    rw [rr.bools hb] at ha
    exact cr_any hc pins s σ H _ us Q I r ⟨a, bs, rfl, SqL.of ha, new_d k (.bl _)⟩
  · cases e
def oSum : OpL
  | [w] => ((lstW w).bind intsD).map fun ns => .d (.int ns.sum)
  | _ => none
theorem call_sumD {L : Ly} {X : Cx} (hc : X.calm = true) : CallR X (.builtin "sum") (rC L oSum) := by
  intro pins s σ H vs us Q I r h
  obtain ⟨A, ws, w, hv, e, hA, k⟩ := h
  unfold oSum at e
  split at e
  · obtain ⟨bs, hx, rfl⟩ := Option.map_eq_some_iff.mp e
    obtain ⟨xs, hx, hb⟩ := Option.bind_eq_some_iff.mp hx
    obtain ⟨v, rfl, h0⟩ := wv1 hv
    obtain ⟨a, ys, rfl, ha, rr⟩ := h0.lst hx
    rw [rr.ints hb] at ha
    exact cr_sum hc pins s σ H _ us Q I r ⟨a, bs, rfl, SqL.of ha, new_d k (.int _)⟩
  · cases e
/-- min, max of two numbers -/
def oTwo (f : Int → Int → Int) : OpL
  | [.d (.int i), .d (.int j)] => some (.d (.int (f i j)))
  | _ => none
theorem call_two {L : Ly} {X : Cx} {id : String} {f : Int → Int → Int} (h : CallR X (.builtin id) (fun xs H Q => ∃ i j, xs = [.int i, .int j] ∧ Q (.int (f i j)) H)) : CallR X (.builtin id) (rC L (oTwo f)) := by
  intro pins s σ H vs us Q I r hh
  obtain ⟨A, ws, w, hv, e, hA, k⟩ := hh
  unfold oTwo at e
  split at e
  · rename_i i j
    cases e
    obtain ⟨v, u, rfl, h0, h1⟩ := wv2 hv
    obtain rfl := (h0.view (d := .int i) rfl).int
    obtain rfl := (h1.view (d := .int j) rfl).int
    exact h pins s σ H _ us Q I r ⟨i, j, rfl, new_d k (.int _)⟩
  · cases e
def max2 (i j : Int) : Int := if j > i then j else i
def min2 (i j : Int) : Int := if j < i then j else i
/-! #### repr, str -/
def oRepr : OpL
  | [w] => w.view.bind fun d => if d.showable && !d.hasDict && decide (d.depth ≤ 64) && decide (d.shown.length ≤ SZ) then some (.d (.str d.shown)) else none
  | _ => none
theorem call_reprD {L : Ly} {X : Cx} (hK : L.K = X.K) (hg : X.A.guards = some []) (hu : X.A.units + 100 < cLine) : CallR X (.builtin "repr") (rC L oRepr) := by
  intro pins s σ H vs us Q I r h
  obtain ⟨A, ws, w, hv, e, hA, k⟩ := h
  unfold oRepr at e
  split at e
  · obtain ⟨d, hd, e⟩ := Option.bind_eq_some_iff.mp e
    split at e
    · rename_i hz
      cases e
      simp only [Bool.and_eq_true, Bool.not_eq_true', decide_eq_true_eq] at hz
      obtain ⟨⟨⟨z1, z2⟩, z3⟩, z4⟩ := hz
      rw [SZ_eq] at z4
      obtain ⟨v, rfl, h0⟩ := wv1 hv
      have dv := h0.view hd
      obtain ⟨u, rfl, ru⟩ := Vals.one r
      have dp := dv.dp
      rw [hK] at dp
      obtain ⟨as, rd⟩ := Dp.reads I d v u dp ru
      have q := new_d k (.str d.shown)
      cases v with
      | ref a =>
        obtain rfl : u = Value.ref a := ru
        exact repr_of_reads' rd z1 (PyData.noDict_hsm z2) hg (by omega) (fun _ _ e => e) (fun h' u tk hk => ⟨.str d.shown, H, I.kept hk, ⟨u, rfl⟩, q⟩) z4
      | non =>
        obtain rfl : u = Value.none := ru
        cases rd
        exact P.repr_of_none ⟨.str _, H, I.tok _, ⟨_, rfl⟩, q⟩
      | bl b =>
        obtain rfl : u = Value.bool b := ru
        cases rd
        exact P.repr_of_bool ⟨.str _, H, I.tok _, ⟨_, rfl⟩, q⟩
      | int i =>
        obtain ⟨t, rfl⟩ := ru
        cases rd
        exact P.repr_of_int (by simpa [PyData.showable] using z1) ⟨.str _, H, I.tok _, ⟨_, rfl⟩, q⟩
      | str x =>
        obtain ⟨t, rfl⟩ := ru
        cases rd
        exact P.repr_of_str ⟨.str _, H, I.tok _, ⟨_, rfl⟩, q⟩ z4
      | byt _ => cases dp
      | flt _ => cases dp
      | ty _ => cases dp
    · cases e
  · cases e
def oStr : OpL
  | [.d (.int i)] => if decide (i.natAbs.log2 < 1920) then some (.d (.str (toString i))) else none
  | [.d (.str x)] => some (.d (.str x))
  | _ => none
theorem call_strD {L : Ly} {X : Cx} : CallR X (.type "str") (rC L oStr) := by
  intro pins s σ H vs us Q I r h
  obtain ⟨A, ws, w, hv, e, hA, k⟩ := h
  unfold oStr at e
  split at e
  · rename_i i
    split at e
    · rename_i hz
      cases e
      obtain ⟨v, rfl, h0⟩ := wv1 hv
      obtain rfl := (h0.view (d := .int i) rfl).int
      exact call_str_int pins s σ H _ us Q I r ⟨i, rfl, of_decide_eq_true hz, new_d k (.str _)⟩
    · cases e
  · rename_i x
    cases e
    obtain ⟨v, rfl, h0⟩ := wv1 hv
    obtain rfl := (h0.view (d := .str x) rfl).str
    exact SkE.call_str_str pins s σ H _ us Q I r ⟨x, rfl, new_d k (.str _)⟩
  · cases e
/-! #### isinstance with a built-in class -/
inductive Ty where
  | int | bool | str | tuple | list
  deriving DecidableEq
def Ty.name : Ty → String
  | .int => "int"
  | .bool => "bool"
  | .str => "str"
  | .tuple => "tuple"
  | .list => "list"
def isW (t : Ty) : W → Option Bool
  | .d .none => some false
  | .d (.bool _) => some (t == .bool || t == .int)
  | .d (.int _) => some (t == .int)
  | .d (.str _) => some (t == .str)
  | .d (.list _) => some (t == .list)
  | .ol _ => some (t == .list)
  | .d (.tuple _) => some (t == .tuple)
  | _ => none
theorem kitN (t : Ty) : kitB "NoneType" t.name = some false := by cases t <;> decide +kernel
theorem kitBo (t : Ty) : kitB "bool" t.name = some (t == .bool || t == .int) := by cases t <;> decide +kernel
theorem kitI (t : Ty) : kitB "int" t.name = some (t == .int) := by cases t <;> decide +kernel
theorem kitS (t : Ty) : kitB "str" t.name = some (t == .str) := by cases t <;> decide +kernel
theorem kitL (t : Ty) : kitB "list" t.name = some (t == .list) := by cases t <;> decide +kernel
theorem kitT (t : Ty) : kitB "tuple" t.name = some (t == .tuple) := by cases t <;> decide +kernel
def fIs (t : Ty) (f : Ev) : Ev := fun env => do
  let (r, e1) ← f env
  let w ← Rs.of (r.look e1)
  let b ← Rs.of (isW t w)
  pure (.w (.d (.bool b)), e1)
theorem sqT_ty {K : PySem.W.Frag} {H : Hp} {a : Addr} {xs : List V} (h : SqT K H a xs) : TyX K H (.ref a) (.type "tuple") := by
  rcases h with (h | ⟨o, h⟩) | ⟨o, its, n, h, c, _⟩
  · exact .base (.tup h)
  · exact .fTuple h
  · exact .kTuple h c
theorem isW_ok {L : Ly} {A : AS} {H : Hp} {w : W} {v : V} {t : Ty} {b : Bool} (h : WV L A H w v) (e : isW t w = some b) : ∃ n, TyX L.K H v (.type n) ∧ kitB n t.name = some b := by
  unfold isW at e
  split at e
  · obtain rfl := (h.view (d := .none) rfl).non
    exact ⟨_, .base .non, (kitN t).trans e⟩
  · rename_i c
    obtain rfl := (h.view (d := .bool c) rfl).bl
    exact ⟨_, .base (.bl c), (kitBo t).trans e⟩
  · rename_i i
    obtain rfl := (h.view (d := .int i) rfl).int
    exact ⟨_, .base (.int i), (kitI t).trans e⟩
  · rename_i x
    obtain rfl := (h.view (d := .str x) rfl).str
    exact ⟨_, .base (.str x), (kitS t).trans e⟩
  · rename_i xs
    obtain ⟨a, ys, rfl, ha, rr⟩ := (h.view (d := .list xs) rfl).list
    exact ⟨_, .base (.lst ha), (kitL t).trans e⟩
  · rename_i xs
    obtain ⟨a, ys, rfl, ha, rr⟩ := (h.view (d := .list xs) rfl).list
    exact ⟨_, .base (.lst ha), (kitL t).trans e⟩
  · rename_i xs
    obtain ⟨a, ys, rfl, ha, rr⟩ := (h.view (d := .tuple xs) rfl).tup
    exact ⟨_, sqT_ty ha, (kitT t).trans e⟩
  · cases e
theorem e_is {L : Ly} {X : Cx} {t : Ty} {a : Expr} {p p2 pos : Pos} {f : Ev} {q : Bool} (hK : L.K = X.K) (hg : Gl X "isinstance") (hm : X.mg "isinstance" = none) (hg2 : Gl X t.name) (hm2 : X.mg t.name = none) (hs : noStar a = true) (ha : PE X a (tE L f q)) :
    PE X (.Call (.Name "isinstance" p) [a, .Name t.name p2] [] pos) (tE L (fIs t f) q) := by
  have hb : bootBuiltins t.name = some (.type t.name) := by cases t <;> decide +kernel
  have hn : (t.name : Str) ≠ "__name__" := by cases t <;> decide
  have hd : ((t.name : Str) == ("__debug__" : Str)) = false := by cases t <;> decide
  refine PE.imp (pe_callB call_isi hg hm boot_isinstance (pa_cons ha (pa_cons (pe_bltn (v := .ty t.name) hg2 hm2 hb rfl hn hd) pa_nil) (star_cons hs)) (by decide) (by decide) (star_cons hs)) fun σ H Q h => ?_
  obtain ⟨env, B, F, m, r, env', he, k⟩ := h
  obtain ⟨⟨ra, e1⟩, h1, he⟩ := bind_eq he
  obtain ⟨w, h2, he⟩ := bind_eq he
  obtain ⟨b, h3, he⟩ := bind_eq he
  cases he
  refine tE_next (qq := q) m (Go.refl (q := true)) h1 (.inl rfl) (fun z => by cases z) id fun v1 H1 F1 T1 m1 g1 => ?_
  obtain ⟨n, ty, kt⟩ := isW_ok (R.look_ok m1.env m1.res1 (of_eq h2)) (of_eq h3)
  refine ⟨v1, .ty t.name, _, _, b, rfl, .ty _, by rw [← hK]; exact ty, kit_ty kt, ?_⟩
  exact k _ _ F1 [] (out_made m1 g1 (Same.refl _) (.d (.bl _)) .nil fun _ q => by cases q)
end Rf
end

section
set_option Elab.async false
set_option linter.all false
set_option maxRecDepth 10000
/-! Targets and statements. -/
namespace Rf
open PySem PySem.Spec PyProof.Rows L2

def W.isD : W → Bool
  | .d _ => true
  | _ => false
/-- which slots may be stored to (a parameter that lends its thing is not one) -/
abbrev Okk := Nat → Bool
def setSlot (ok : Okk) (i : Nat) (x : W) (env : Env) : Rs Env := if ok i && decide (i < env.length) then .ok (env.set i (some x)) else .fail
section
variable {L : Ly} {B : AS} {env env' : Env} {σ : St} {H H' : Hp} {F F' T T' : List Addr} {rs : List R} {vs : List V} {r : R} {v : V}
theorem nodup_mid {F1 G F2 T : List Addr} (h : (F1 ++ G ++ F2 ++ T).Nodup) : (F1 ++ T ++ F2).Nodup := by
  simp only [List.nodup_append, List.mem_append] at h ⊢
  obtain ⟨⟨⟨h1, h2, h3⟩, h4, h5⟩, h6, h7⟩ := h
  refine ⟨⟨h1, h6, fun a ha b hb e => h7 a (.inl (.inl ha)) b hb e⟩, h4, fun a ha b hb e => ?_⟩
  rcases ha with ha | ha
  · exact h5 a (.inl ha) b hb e
  · exact h7 b (.inr hb) a ha e.symm
theorem MS.assign {ok : Okk} {i : Nat} {x : W} (m : MS L B env σ H F [.w x] [v] T) (e : setSlot ok i x env = .ok env') :
    ok i = true ∧ ∃ F', MS L B env' (σ.set i (some v)) H F' [] [] [] ∧ ∀ a, a ∈ F' → a ∈ F ∨ a ∈ T := by
  have hx : WR L (Av B F T) H x v T := by
    cases m.res1 with
    | w x => exact x
  have fin : ∀ F1 G F2, F = F1 ++ G ++ F2 → EnvR L (Av B (F1 ++ T ++ F2) []) H (env.set i (some x)) (σ.set i (some v)) (F1 ++ T ++ F2) →
      ∃ F', MS L B (env.set i (some x)) (σ.set i (some v)) H F' [] [] [] ∧ ∀ a, a ∈ F' → a ∈ F ∨ a ∈ T := fun F1 G F2 hF en => by
    have nd := m.nd
    rw [hF] at nd
    have hm : ∀ a, a ∈ F1 ++ T ++ F2 → a ∈ F ∨ a ∈ T := fun a h => by
      rw [hF]
      simp only [List.mem_append] at h ⊢
      rcases h with (h | h) | h
      · exact .inl (.inl (.inl h))
      · exact .inr h
      · exact .inl (.inr h)
    refine ⟨_, ⟨en, .nil, by simpa using nodup_mid nd, fun a h => ?_, m.al⟩, hm⟩
    rcases h with h | h
    · exact m.dj a (hm a h)
    · cases h
  have hsub : ∀ F1 G F2, F = F1 ++ G ++ F2 → ∀ b, Av B (F1 ++ T ++ F2) [] b → Av B F T b := fun F1 G F2 hF b h => by
    rcases h with h | h | h
    · exact .inl h
    · rw [hF]
      simp only [List.mem_append] at h
      rcases h with (h | h) | h
      · exact .inr (.inl (by simp [h]))
      · exact .inr (.inr h)
      · exact .inr (.inl (by simp [h]))
    · cases h
  have old : ∀ w, env[i]? = some (some w) → env' = env.set i (some x) → ∃ F', MS L B env' (σ.set i (some v)) H F' [] [] [] ∧ ∀ a, a ∈ F' → a ∈ F ∨ a ∈ T := fun w hw he => by
    obtain ⟨u, F1, G, F2, hF, hσ, _, k⟩ := m.env.get hw
    have hs := hsub F1 G F2 hF
    obtain ⟨k1, _⟩ := k (fun _ => False) H (Av B (F1 ++ T ++ F2) []) Stp.refl (fun _ h => h.elim) (fun b h => .inl (hs b h)) fun _ _ h => h
    rw [he]
    exact fin F1 G F2 hF (k1 x v T (hx.sub hs))
  unfold setSlot at e
  split at e
  · rename_i hz
    rw [Bool.and_eq_true] at hz
    have hlt : i < env.length := of_decide_eq_true hz.2
    cases e
    refine ⟨hz.1, ?_⟩
    cases hw : env[i] with
    | none =>
      have hw' : env[i]? = some none := by rw [List.getElem?_eq_getElem hlt, hw]
      obtain ⟨F1, F2, hF, en⟩ := m.env.put hw' hx
      have hF' : F = F1 ++ [] ++ F2 := by simpa using hF
      exact fin F1 [] F2 hF' (en.sub (hsub F1 [] F2 hF'))
    | some w => exact old w (by rw [List.getElem?_eq_getElem hlt, hw]) rfl
  · cases e
end

/-! ### targets -/
inductive Tg where
  | name (i : Nat)
  | tup (l : List Tg)
mutual
/-- a datum to a target -/
def Tg.put (ok : Okk) : Tg → PyData → Env → Rs Env
  | .name i, d, env => setSlot ok i (.d d) env
  | .tup l, .tuple ds, env => Tg.puts ok l ds env
  | .tup _, _, _ => .fail
def Tg.puts (ok : Okk) : List Tg → List PyData → Env → Rs Env
  | [], [], env => .ok env
  | t :: ts, d :: ds, env => (Tg.put ok t d env) >>= Tg.puts ok ts ds
  | _, _, _ => .fail
end
/-- which slots a target fills -/
def Tg.slots : Tg → List Nat
  | .name i => [i]
  | .tup l => Tg.slotsL l
where Tg.slotsL : List Tg → List Nat
  | [] => []
  | t :: ts => Tg.slots t ++ Tg.slotsL ts
/-- only the slots of l have changed -/
def Ch (l : List Nat) (σ σ' : St) : Prop := σ'.length = σ.length ∧ ∀ j, j ∉ l → σ'[j]? = σ[j]?
/-- what may not be stored to stays -/
def Kp (ok : Okk) (σ σ' : St) : Prop := ∀ j, ok j = false → σ'[j]? = σ[j]?
theorem Kp.refl {ok : Okk} {σ : St} : Kp ok σ σ := fun _ _ => rfl
theorem Kp.trans {ok : Okk} {a b c : St} (x : Kp ok a b) (y : Kp ok b c) : Kp ok a c := fun j h => (y j h).trans (x j h)
theorem Kp.set {ok : Okk} {σ : St} {i : Nat} {x : Option V} (h : ok i = true) : Kp ok σ (σ.set i x) := fun j hj => List.getElem?_set_ne fun e => by rw [e, hj] at h; cases h
theorem Ch.refl {l : List Nat} {σ : St} : Ch l σ σ := ⟨rfl, fun _ _ => rfl⟩
theorem Ch.trans {l1 l2 : List Nat} {a b c : St} (x : Ch l1 a b) (y : Ch l2 b c) : Ch (l1 ++ l2) a c :=
  ⟨y.1.trans x.1, fun j h => by rw [List.mem_append, not_or] at h; rw [y.2 j h.2, x.2 j h.1]⟩
/-- what storing leaves -/
def tG (L : Ly) (ok : Okk) (l : List Nat) (p : PyData → Env → Rs Env) : TG := fun v σ H Q => ∃ env B F d env', MS L B env σ H F [.w (.d d)] [v] [] ∧ p d env = .ok env' ∧ ∀ σ' F', MS L B env' σ' H F' [] [] [] → Ch l σ σ' → Kp ok σ σ' → (∀ a, a ∈ F' → a ∈ F) → Q σ' H
def tGs (L : Ly) (ok : Okk) (l : List Nat) (p : List PyData → Env → Rs Env) : TGs := fun vs σ H Q => ∃ env B F ds env', MS L B env σ H F (ds.map wd) vs [] ∧ p ds env = .ok env' ∧ ∀ σ' F', MS L B env' σ' H F' [] [] [] → Ch l σ σ' → Kp ok σ σ' → (∀ a, a ∈ F' → a ∈ F) → Q σ' H
theorem PG.imp {X : Cx} {e : Expr} {t t' : TG} (h : PG X e t) (i : ∀ v σ H Q, t' v σ H Q → t v σ H Q) : PG X e t' := ⟨fun pins s σ H v u Q I r hq => h.run pins s σ H v u Q I r (i v σ H Q hq)⟩
theorem PGs.imp {X : Cx} {e : List Expr} {t t' : TGs} (h : PGs X e t) (i : ∀ v σ H Q, t' v σ H Q → t v σ H Q) : PGs X e t' := ⟨fun pins s σ H v u Q I r hq => h.run pins s σ H v u Q I r (i v σ H Q hq)⟩
theorem g_name {L : Ly} {X : Cx} {ok : Okk} {i : Nat} {x : Str} {pos : Pos} (hN : X.N.Nodup) (hi : X.N[i]? = some x) (hx : Loc X.env.scope x) (hf : X.fn x = true ∨ X.env.scope.names.lookup x = some .local) : PG X (.Name x pos) (tG L ok [i] (Tg.put ok (.name i))) :=
  PG.imp (pg_name hN hi hx hf) fun v σ H Q h => by
    obtain ⟨env, B, F, d, env', m, he, k⟩ := h
    obtain ⟨hok, F', m', hF⟩ := m.assign (show setSlot ok i (.d d) env = .ok env' from by simpa [Tg.put] using he)
    exact k _ F' m' ⟨by simp, fun j hj => List.getElem?_set_ne fun e => hj (by simp [e])⟩ (Kp.set hok) fun a h => (hF a h).elim id fun h => by cases h
theorem gs_nil {L : Ly} {X : Cx} {ok : Okk} : PGs X [] (tGs L ok [] (Tg.puts ok [])) := PGs.imp pgs_nil fun vs σ H Q h => by
  obtain ⟨env, B, F, ds, env', m, he, k⟩ := h
  cases ds with
  | nil =>
    have h := m.res
    cases h
    have e : env = env' := by simpa [Tg.puts] using he
    subst e
    exact ⟨rfl, k σ F m.bare Ch.refl Kp.refl fun _ h => h⟩
  | cons d ds => simp [Tg.puts] at he
theorem data_all (xs : List PyData) : dataR (xs.map wd) = some xs := by
  induction xs with
  | nil => rfl
  | cons x xs ih => simp [wd, dataR] ; exact ih
theorem gs_cons {L : Ly} {X : Cx} {ok : Okk} {e : Expr} {es : List Expr} {t : Tg} {ts : List Tg} {l1 l2 : List Nat} (h1 : PG X e (tG L ok l1 (Tg.put ok t))) (h2 : PGs X es (tGs L ok l2 (Tg.puts ok ts))) (hs : (assignEach (e :: es) X.env).map (·.2) = assign e X.env :: (assignEach es X.env).map (·.2)) :
    PGs X (e :: es) (tGs L ok (l1 ++ l2) (Tg.puts ok (t :: ts))) := PGs.imp (pgs_cons h1 h2 hs) fun vs σ H Q h => by
  obtain ⟨env, B, F, ds, env', m, he, k⟩ := h
  cases ds with
  | nil => simp [Tg.puts] at he
  | cons d ds =>
    have he' : (Tg.put ok t d env >>= Tg.puts ok ts ds) = .ok env' := by simpa [Tg.puts] using he
    obtain ⟨e1, h3, h4⟩ := bind_eq he'
    have d' := data_of (ds := d :: ds) m.res (data_all (d :: ds))
    cases d' with
    | @cons v vs _ _ hv hvs =>
      refine ⟨v, vs, rfl, env, B, F, d, e1, { m.bare with res := .cons (T := []) (U := []) (.w (.d hv)) .nil }, h3, fun σ1 F1 m1 c1 p1 hF1 => ?_⟩
      have hvs' : DqAll L.K (Av B F1 []) H vs ds := hvs.sub fun b h => by
        rcases h with h | h | h
        · exact .inl h
        · exact .inr (.inl (hF1 b h))
        · cases h
      exact ⟨e1, B, F1, ds, env', { m1 with res := rrs_data hvs' }, h4, fun σ2 F2 m2 c2 p2 hF2 => k σ2 F2 m2 (c1.trans c2) (p1.trans p2) fun a h => hF1 a (hF2 a h)⟩
theorem puts_len {ok : Okk} : ∀ (ts : List Tg) (ds : List PyData) (env env' : Env), Tg.puts ok ts ds env = .ok env' → ds.length = ts.length
  | [], [], _, _, _ => rfl
  | [], _ :: _, _, _, h => by simp [Tg.puts] at h
  | _ :: _, [], _, _, h => by simp [Tg.puts] at h
  | t :: ts, d :: ds, env, env', h => by
    have h' : (Tg.put ok t d env >>= Tg.puts ok ts ds) = .ok env' := by simpa [Tg.puts] using h
    obtain ⟨e1, _, h4⟩ := bind_eq h'
    simp [puts_len ts ds e1 env' h4]
theorem g_tup {L : Ly} {X : Cx} {ok : Okk} {es : List Expr} {k0 : Nat} {pos : Pos} {ts : List Tg} {l : List Nat} (hK : L.K = X.K) (hc : X.calm = true) (h : PGs X es (tGs L ok l (Tg.puts ok ts))) (hl : ts.length = es.length) (hn : (assignEach es X.env).length = es.length) (hst : (assignEach es X.env).findIdx? (·.1) = none) :
    PG X (.Tuple es k0 pos) (tG L ok l (Tg.put ok (.tup ts))) := PG.imp (pg_tup hc h hn hst) fun v σ H Q hh => by
  obtain ⟨env, B, F, d, env', m, he, k⟩ := hh
  cases d with
  | tuple ds =>
    have he' : Tg.puts ok ts ds env = .ok env' := by simpa [Tg.put] using he
    have x := m.res1
    cases x with
    | w x =>
      cases x with
      | d x =>
        cases x with
        | @tup a xs _ hq r => exact ⟨a, xs, rfl, by rw [← hK]; exact hq, by rw [r.length, puts_len ts ds env env' he', hl], env, B, F, ds, env', { m.bare with res := rrs_data r }, he', k⟩
  | _ => simp [Tg.put] at he

/-! ### statements -/
inductive Fl where
  | nx | brk | cnt
  | ret (r : R)
abbrev Ex := Env → Rs (Fl × Env)
def Fl.rs : Fl → List R
  | .ret r => [r]
  | _ => []
/-- what is wanted at the end -/
def Fl.want (D : Ends) : Fl → St → List V → Hp → Prop
  | .nx, σ, _, H => D.nx σ H
  | .brk, σ, _, H => D.bk σ H
  | .cnt, σ, _, H => D.ct σ H
  | .ret _, _, vs, H => ∃ v, vs = [v] ∧ D.rt v H
structure OutS (L : Ly) (ok : Okk) (B : AS) (σ : St) (H : Hp) (F : List Addr) (fl : Fl) (env' : Env) (σ' : St) (vs : List V) (H' : Hp) (F' T' : List Addr) : Prop where
  kp : Kp ok σ σ'
  ms : MS L B env' σ' H' F' fl.rs vs T'
  st : Stp (· ∈ F) H H'
  nw : ∀ a, a ∈ F' ∨ a ∈ T' → a ∈ F ∨ H a = none
def tS (L : Ly) (ok : Okk) (f : Ex) : TS := fun D σ H => ∃ env B F, MS L B env σ H F [] [] [] ∧ ∃ fl env', f env = .ok (fl, env') ∧ ∀ σ' vs H' F' T', OutS L ok B σ H F fl env' σ' vs H' F' T' → fl.want D σ' vs H'
theorem PS.imp {X : Cx} {e : Stmt} {t t' : TS} (h : PS X e t) (i : ∀ D σ H, t' D σ H → t D σ H) : PS X e t' := ⟨fun pins s σ H D I hq => h.run pins s σ H D I (i D σ H hq)⟩
theorem PSs.imp {X : Cx} {e : List Stmt} {t t' : TS} (h : PSs X e t) (i : ∀ D σ H, t' D σ H → t D σ H) : PSs X e t' := ⟨fun pins s σ H D I hq => h.run pins s σ H D I (i D σ H hq)⟩
/-- from an expression's end to a statement's -/
theorem Out.S {L : Ly} {ok : Okk} {B : AS} {σ : St} {q : Bool} {H H' : Hp} {F F' T' : List Addr} {env' : Env} {rs : List R} {vs : List V} {fl : Fl} (o : Out L B σ q H F rs env' vs H' F' T') (e : fl.rs = rs) : OutS L ok B σ H F fl env' σ vs H' F' T' :=
  ⟨Kp.refl, by rw [e]; exact o.ms, o.st.mono fun x h => .inl h.2, o.nw⟩
def xPass : Ex := fun env => .ok (.nx, env)
theorem s_pass {L : Ly} {ok : Okk} {X : Cx} {pos : Pos} : PS X (.Pass pos) (tS L ok xPass) := PS.imp ps_pass fun D σ H h => by
  obtain ⟨env, B, F, m, fl, env', he, k⟩ := h
  cases he
  exact k σ [] H F [] ⟨Kp.refl, m, Stp.refl, fun a h => h.elim .inl fun h => by cases h⟩
theorem s_brk {L : Ly} {ok : Okk} {X : Cx} {pos : Pos} : PS X (.Break pos) (tS L ok fun env => .ok (.brk, env)) := PS.imp ps_break fun D σ H h => by
  obtain ⟨env, B, F, m, fl, env', he, k⟩ := h
  cases he
  exact k σ [] H F [] ⟨Kp.refl, m, Stp.refl, fun a h => h.elim .inl fun h => by cases h⟩
theorem s_cnt {L : Ly} {ok : Okk} {X : Cx} {pos : Pos} : PS X (.Continue pos) (tS L ok fun env => .ok (.cnt, env)) := PS.imp ps_continue fun D σ H h => by
  obtain ⟨env, B, F, m, fl, env', he, k⟩ := h
  cases he
  exact k σ [] H F [] ⟨Kp.refl, m, Stp.refl, fun a h => h.elim .inl fun h => by cases h⟩
/-- a statement that is not reached -/
theorem s_never {L : Ly} {ok : Okk} {X : Cx} {st : Stmt} : PS X st (tS L ok fun _ => .fail) := PS.imp ps_never fun D σ H h => by
  obtain ⟨env, B, F, m, fl, env', he, k⟩ := h
  cases he
def xExpr (f : Ev) : Ex := fun env => do
  let (_, e1) ← f env
  pure (.nx, e1)
theorem s_expr {L : Ly} {ok : Okk} {X : Cx} {e : Expr} {pos : Pos} {f : Ev} {q : Bool} (h : PE X e (tE L f q)) (hs : swapsWith e none pos.line X.env = pure false) : PS X (.Expr e pos) (tS L ok (xExpr f)) := PS.imp (ps_expr h hs) fun D σ H h => by
  obtain ⟨env, B, F, m, fl, env', he, k⟩ := h
  obtain ⟨⟨r, e1⟩, h1, he⟩ := bind_eq he
  cases he
  exact ⟨env, B, F, m, r, _, h1, fun v H' F' T' o => k σ [] H' F' [] (Out.S (out_bare o.ms ⟨o.st, o.nw⟩) rfl)⟩
/-- a local thing is handed out; what a parameter lent stays named -/
def moveOut (ok : Okk) : R → Env → Rs (R × Env)
  | .w x, env => .ok (.w x, env)
  | .al i p, env => if ok i then (Rs.of (Env.at env i p)) >>= fun w => .ok (.w w, env.set i none) else .ok (.al i p, env)
mutual
theorem WR.sublist {L : Ly} {A : AS} {H : Hp} : ∀ {p : List Str} {w w' : W} {v u : V} {F : List Addr}, WR L A H w v F → W.at w p = some w' → PathV H v p u → ∃ G, WR L A H w' u G ∧ G.Sublist F
  | [], _, _, _, _, F, x, e, q => by
    cases q
    have e' : some _ = some _ := e
    cases e'
    exact ⟨F, x, List.Sublist.refl _⟩
  | f :: p, w, w', v, u, F, x, e, q => by
    cases q with
    | cons e1 e2 q =>
      cases x with
      | oi h1 h2 h3 =>
        rw [e1] at h1; cases h1
        obtain ⟨w1, hw, e3⟩ := Option.bind_eq_some_iff.mp (show (List.lookup f _).bind _ = some w' from e)
        obtain ⟨v1, G, g1, g2, g3⟩ := FRs.sublist h3 hw
        rw [e2] at g1; cases g1
        obtain ⟨G', y, n⟩ := WR.sublist g2 e3 q
        exact ⟨G', y, (n.trans g3).cons _⟩
      | d _ => cases e
      | ol _ _ => cases e
      | fl _ _ => cases e
      | od _ => cases e
      | os _ => cases e
theorem FRs.sublist {L : Ly} {A : AS} {H : Hp} : ∀ {fs : List (Str × W)} {rfs : List (Str × V)} {F : List Addr} {f : Str} {w : W}, FRs L A H fs rfs F → fs.lookup f = some w → ∃ v G, rfs.lookup f = some v ∧ WR L A H w v G ∧ G.Sublist F
  | _, _, _, _, _, .nil, e => by cases e
  | _, _, _, f, w, .cons (f := g) (F := F) (G := G) x t, e => by
    rw [List.lookup_cons] at e
    cases hb : f == g with
    | true => rw [hb] at e; cases e; exact ⟨_, F, by rw [List.lookup_cons, hb], x, List.sublist_append_left _ _⟩
    | false =>
      rw [hb] at e
      obtain ⟨v, G', h1, h2, h3⟩ := FRs.sublist t e
      exact ⟨v, G', by rw [List.lookup_cons, hb]; exact h1, h2, h3.trans (List.sublist_append_right _ _)⟩
end
theorem Out.move {L : Ly} {B : AS} {σ : St} {q : Bool} {H H' : Hp} {F F' T' : List Addr} {r r2 : R} {e1 e2 : Env} {v : V} {ok : Okk} (o : Out L B σ q H F [r] e1 [v] H' F' T') (e : moveOut ok r e1 = .ok (r2, e2)) :
    ∃ F2 T2, Out L B σ q H F [r2] e2 [v] H' F2 T2 := by
  unfold moveOut at e
  split at e
  · cases e; exact ⟨F', T', o⟩
  · rename_i i p env
    split at e
    · obtain ⟨w, hw, e⟩ := bind_eq e
      cases e
      have hw := of_eq hw
      have hr := o.ms.res1
      unfold Env.at at hw
      split at hw
      · rename_i w0 h0
        obtain ⟨u, F1, G, F2, hF, hσ, x, k⟩ := o.ms.env.get h0
        have hT : T' = [] := by
          cases hr with
          | al _ _ => rfl
        subst hT
        cases hr with
        | al e1 q =>
          rw [hσ] at e1; cases e1
          obtain ⟨G', y, sl⟩ := x.sublist hw q
          have hsub : ∀ b, Av B (F1 ++ F2) G' b → Av B F' [] b := fun b h => by
            rcases h with h | h | h
            · exact .inl h
            · exact .inr (.inl (by rw [hF]; rcases List.mem_append.mp h with h | h <;> simp [h]))
            · exact .inr (.inl (by rw [hF]; simp [sl.subset h]))
          obtain ⟨_, k2⟩ := k (fun _ => False) H' (Av B (F1 ++ F2) G') Stp.refl (fun _ h => h.elim) (fun b h => .inl (hsub b h)) fun _ _ h => h
          have en := k2 (some u)
          rw [set_self hσ] at en
          have nd : (F1 ++ G ++ F2).Nodup := by
            have n := (List.nodup_append.mp o.ms.nd).1
            rw [hF] at n; exact n
          have inF : ∀ a, a ∈ F1 ++ F2 ∨ a ∈ G' → a ∈ F' := fun a h => by
            rw [hF]
            rcases h with h | h
            · rcases List.mem_append.mp h with h | h <;> simp [h]
            · simp [sl.subset h]
          refine ⟨F1 ++ F2, G', ⟨⟨en, by simpa using RRs.cons (.w (y.sub hsub)) RRs.nil, ?_, fun a h => o.ms.dj a (.inl (inF a h)), o.ms.al⟩, o.st, fun a h => o.nw a (.inl (inF a h))⟩⟩
          simp only [List.nodup_append, List.mem_append] at nd ⊢
          obtain ⟨⟨n1, n2, n3⟩, n4, n5⟩ := nd
          refine ⟨⟨n1, n4, fun a ha b hb => n5 a (.inl ha) b hb⟩, sl.nodup n2, fun a ha b hb e => ?_⟩
          rcases ha with ha | ha
          · exact n3 a ha b (sl.subset hb) e
          · exact n5 b (.inr (sl.subset hb)) a ha e.symm
      · cases hw
    · cases e; exact ⟨F', T', o⟩
def xRet (ok : Okk) (f : Ev) : Ex := fun env => do
  let (r, e1) ← f env
  let (r2, e2) ← moveOut ok r e1
  pure (.ret r2, e2)
theorem s_ret {L : Ly} {ok : Okk} {X : Cx} {e : Expr} {pos : Pos} {f : Ev} {q : Bool} (h : PE X e (tE L f q)) : PS X (.Return (some e) pos) (tS L ok (xRet ok f)) := PS.imp (ps_ret h) fun D σ H h => by
  obtain ⟨env, B, F, m, fl, env', he, k⟩ := h
  obtain ⟨⟨r, e1⟩, h1, he⟩ := bind_eq he
  obtain ⟨⟨r2, e2⟩, h2, he⟩ := bind_eq he
  cases he
  refine ⟨env, B, F, m, r, e1, h1, fun v H' F' T' o => ?_⟩
  obtain ⟨F2, T2, o2⟩ := o.move h2
  obtain ⟨v', hv, q⟩ := k σ [v] H' F2 T2 (Out.S o2 rfl)
  cases hv
  exact q
theorem s_retN {L : Ly} {ok : Okk} {X : Cx} {pos : Pos} : PS X (.Return none pos) (tS L ok fun env => .ok (.ret (.w (.d .none)), env)) := PS.imp ps_retN fun D σ H h => by
  obtain ⟨env, B, F, m, fl, env', he, k⟩ := h
  cases he
  obtain ⟨v', hv, q⟩ := k σ [.non] H F [] (Out.S (q := true) (out_made m (Go.refl (q := true)) (Same.refl H) (.d .non) .nil fun _ h => by cases h) rfl)
  cases hv
  exact q
/-- x = e -/
def takeR : R → Env → Rs (W × Env)
  | .w x, env => .ok (x, env)
  | r, env => froz r env >>= fun p => .ok (.d p.1, p.2)
theorem Out.take {L : Ly} {B : AS} {σ : St} {q : Bool} {H H' : Hp} {F F' T' : List Addr} {r : R} {e1 e2 : Env} {v : V} {x : W} (o : Out L B σ q H F [r] e1 [v] H' F' T') (e : takeR r e1 = .ok (x, e2)) :
    ∃ F2 T2, Out L B σ q H F [.w x] e2 [v] H' F2 T2 := by
  unfold takeR at e
  split at e
  · cases e; exact ⟨F', T', o⟩
  · obtain ⟨⟨d, e3⟩, h1, e⟩ := bind_eq e
    cases e
    obtain ⟨F2, o2⟩ := o.frz h1
    exact ⟨F2, [], o2⟩
def xSet (ok : Okk) (i : Nat) (f : Ev) : Ex := fun env => do
  let (r, e1) ← f env
  let (x, e2) ← takeR r e1
  let e3 ← setSlot ok i x e2
  pure (.nx, e3)
theorem tSet_of {L : Ly} {ok : Okk} {i : Nat} {f : Ev} {q : Bool} {D : Ends} {σ : St} {H : Hp} (h : tS L ok (xSet ok i f) D σ H) : tAsg (tE L f q) (gName i) D σ H := by
  obtain ⟨env, B, F, m, fl, env', he, k⟩ := h
  obtain ⟨⟨r, e1⟩, h1, he⟩ := bind_eq he
  obtain ⟨⟨x, e2⟩, h2, he⟩ := bind_eq he
  obtain ⟨e3, h3, he⟩ := bind_eq he
  cases he
  refine ⟨env, B, F, m, r, e1, h1, fun v H' F' T' o => ?_⟩
  obtain ⟨F2, T2, o2⟩ := o.take h2
  obtain ⟨hok, F3, m3, hF⟩ := o2.ms.assign h3
  exact k _ [] H' F3 [] ⟨Kp.set hok, m3, o2.st.mono fun x h => .inl h.2, fun a h => h.elim (fun h => o2.nw a (hF a h)) fun h => by cases h⟩
theorem s_set {L : Ly} {ok : Okk} {X : Cx} {i : Nat} {x : Str} {e : Expr} {pos pos' : Pos} {f : Ev} {q : Bool} (hN : X.N.Nodup) (hi : X.N[i]? = some x) (hx : Loc X.env.scope x) (hf : X.fn x = true ∨ X.env.scope.names.lookup x = some .local) (h : PE X e (tE L f q))
    (hs : swapsWith e (some (.Name x pos')) pos.line X.env = pure false) : PS X (.Assign [.Name x pos'] e pos) (tS L ok (xSet ok i f)) := PS.imp (ps_set hN hi hx h hs hf) fun _ _ _ h => tSet_of h
/-- target = e, a tuple of targets -/
def xAsg (ok : Okk) (t : Tg) (f : Ev) : Ex := fun env => do
  let (r, e1) ← fFrz f env
  match r with
  | .w (.d d) => do
    let e2 ← t.put ok d e1
    pure (.nx, e2)
  | _ => .fail
theorem s_asg {L : Ly} {ok : Okk} {X : Cx} {t : Tg} {l : List Nat} {tg e : Expr} {pos : Pos} {f : Ev} {q : Bool} (h : PE X e (tE L f q)) (hg : PG X tg (tG L ok l (t.put ok))) (hs : swapsWithSole [tg] e pos.line X.env = pure false) (hw : swappedStores [tg] e X.env = pure none)
    (h1 : (assignEach [tg] X.env).map (·.2) = [assign tg X.env]) : PS X (.Assign [tg] e pos) (tS L ok (xAsg ok t f)) := PS.imp (ps_asg (e_frz h) hg hs hw h1) fun D σ H h => by
  obtain ⟨env, B, F, m, fl, env', he, k⟩ := h
  obtain ⟨⟨r, e1⟩, h1, he⟩ := bind_eq he
  dsimp only at he
  split at he
  · rename_i d
    obtain ⟨e2, h2, he⟩ := bind_eq he
    cases he
    refine ⟨env, B, F, m, _, e1, h1, fun v H' F' T' o => ?_⟩
    have hT : T' = [] := by
      have x := o.ms.res1
      cases x with
      | w x =>
        cases x with
        | d x => rfl
    subst hT
    exact ⟨e1, B, F', d, _, o.ms, h2, fun σ2 F2 m2 _ kp hF2 => k σ2 [] H' F2 [] ⟨kp, m2, o.st.mono fun x h => .inl h.2, fun a h => h.elim (fun h => o.nw a (.inl (hF2 a h))) fun h => by cases h⟩⟩
  · cases he
/-- if -/
def xIf (t : Tv) (f g : Ex) : Ex := fun env => do
  let (b, e1) ← t env
  if b then f e1 else g e1
theorem s_if {L : Ly} {ok : Okk} {X : Cx} {c : Expr} {a b : List Stmt} {pos : Pos} {t : Tv} {f g : Ex} {q : Bool} (hc : PT X c (tT L t q)) (ha : PSs X a (tS L ok f)) (hb : PSs X b (tS L ok g)) : PS X (.If c a b pos) (tS L ok (xIf t f g)) := PS.imp (ps_if hc ha hb) fun D σ H h => by
  obtain ⟨env, B, F, m, fl, env', he, k⟩ := h
  obtain ⟨⟨bb, e1⟩, h1, he⟩ := bind_eq he
  refine ⟨env, B, F, m, bb, e1, h1, fun H' F' o => ?_⟩
  have go : ∀ {h : Ex}, h e1 = .ok (fl, env') → tS L ok h D σ H' := fun {h} hh => ⟨e1, B, F', o.ms, fl, env', hh, fun σ2 vs H2 F2 T2 o2 => k σ2 vs H2 F2 T2
    ⟨o2.kp, o2.ms, o.st.trans (Z := (· ∈ F)) o2.st (fun x h => h.2) (fun x h => o.nw x (.inl h)), fun a h => by
      rcases o2.nw a h with h | h
      · exact o.nw a (.inl h)
      · exact (Go.there (q := q) ⟨o.st, o.nw⟩ h)⟩⟩
  dsimp only at he
  cases bb with
  | true => exact iteT (go he)
  | false => exact iteF (go he)
/-- one after another -/
def xSeq (f g : Ex) : Ex := fun env => do
  let (fl, e1) ← f env
  match fl with
  | .nx => g e1
  | _ => pure (fl, e1)
theorem OutS.trans {L : Ly} {ok : Okk} {B : AS} {σ : St} {H H1 H2 : Hp} {F F1 F2 T1 T2 : List Addr} {fl : Fl} {e1 e2 : Env} {σ1 σ2 : St} {vs vs2 : List V} {f1 : Fl} (a : OutS L ok B σ H F f1 e1 σ1 vs H1 F1 T1) (b : OutS L ok B σ1 H1 F1 fl e2 σ2 vs2 H2 F2 T2) : OutS L ok B σ H F fl e2 σ2 vs2 H2 F2 T2 where
  kp := a.kp.trans b.kp
  ms := b.ms
  st := a.st.trans (Z := (· ∈ F)) b.st (fun x h => h) (fun x h => a.nw x (.inl h))
  nw := fun x h => by
    rcases b.nw x h with h | h
    · exact a.nw x (.inl h)
    · by_cases hz : H x = none
      · exact .inr hz
      · by_cases hf : x ∈ F
        · exact .inl hf
        · exact absurd h (by rw [a.st.there hf hz]; exact hz)
theorem ss_nil {L : Ly} {ok : Okk} {X : Cx} : PSs X [] (tS L ok xPass) := PSs.imp pss_nil fun D σ H h => by
  obtain ⟨env, B, F, m, fl, env', he, k⟩ := h
  cases he
  exact k σ [] H F [] ⟨Kp.refl, m, Stp.refl, fun a h => h.elim .inl fun h => by cases h⟩
theorem ss_cons {L : Ly} {ok : Okk} {X : Cx} {st : Stmt} {rest : List Stmt} {f g : Ex} (h1 : PS X st (tS L ok f)) (h2 : PSs X rest (tS L ok g)) : PSs X (st :: rest) (tS L ok (xSeq f g)) := PSs.imp (pss_cons h1 h2) fun D σ H h => by
  obtain ⟨env, B, F, m, fl, env', he, k⟩ := h
  obtain ⟨⟨f1, e1⟩, h1, he⟩ := bind_eq he
  refine ⟨env, B, F, m, f1, e1, h1, fun σ1 vs H1 F1 T1 o => ?_⟩
  cases f1 with
  | nx =>
    have m1 : MS L B e1 σ1 H1 F1 [] [] [] := o.ms.bare
    exact ⟨e1, B, F1, m1, fl, env', he, fun σ2 vs2 H2 F2 T2 o2 => k σ2 vs2 H2 F2 T2 (o.trans o2)⟩
  | brk => cases he; exact k σ1 vs H1 F1 T1 o
  | cnt => cases he; exact k σ1 vs H1 F1 T1 o
  | ret r => cases he; exact k σ1 vs H1 F1 T1 o
end Rf
end

section
set_option Elab.async false
set_option linter.all false
set_option maxRecDepth 10000
/-! What loops walk; for, while, list comprehensions. -/
namespace Rf
open PySem PySem.Spec PyProof.Rows L2

/-- the data that a loop leans on, and its items -/
abbrev Sv := Env → Rs ((List PyData × List PyData) × Env)
structure ItOk (L : Ly) (J : It) (ds : List PyData) (vs : List V) (xs : List PyData) : Prop where
  go : ∀ i H A, DqAll L.K A H vs ds → i < xs.length → J.go i H
  stop : ∀ i H A, DqAll L.K A H vs ds → xs.length ≤ i → J.stop i H
  yld : ∀ i H A x H' d, DqAll L.K A H vs ds → xs[i]? = some d → J.yld i H x H' → Same H H' ∧ Dq L.K A H' x d
def tI (L : Ly) (f : Sv) (q : Bool) : TI := fun σ H R => ∃ env B F, MS L B env σ H F [] [] [] ∧ ∃ ds xs env', f env = .ok ((ds, xs), env') ∧
  ∀ vs H' F' J, Out L B σ q H F (ds.map wd) env' vs H' F' [] → ItOk L J ds vs xs → R J H'
theorem PI.imp {X : Cx} {tg e : Expr} {t t' : TI} (h : PI X tg e t) (i : ∀ σ H Q, t' σ H Q → t σ H Q) : PI X tg e t' := ⟨fun pins s σ H R I hq => h.run pins s σ H R I (i σ H R hq)⟩
theorem PI.or {X : Cx} {tg e : Expr} {t t' : TI} (h : PI X tg e t) (h' : PI X tg e t') : PI X tg e (fun σ H R => t σ H R ∨ t' σ H R) := ⟨fun pins s σ H R I hq => hq.elim (h.run pins s σ H R I) (h'.run pins s σ H R I)⟩
def charsD (z : Str) : List PyData := z.cps.toList.map fun c => .str ⟨#[c]⟩
/-- a list, a tuple, a text -/
def vPlain (f : Ev) : Sv := fun env => do
  let (r, e1) ← fFrz f env
  match r with
  | .w (.d (.list xs)) => pure (([.list xs], xs), e1)
  | .w (.d (.tuple xs)) => pure (([.tuple xs], xs), e1)
  | .w (.d (.str z)) => pure (([], charsD z), e1)
  | _ => .fail
theorem it_list {L : Ly} {X : Cx} {a : Addr} {xs : List PyData} (hK : L.K = X.K) : ItOk L (Itl X.K a) [.list xs] [.ref a] xs where
  go := fun i H A h hi => by
    cases h with
    | cons h _ =>
      cases h with
      | @lst _ vs _ e n r =>
        obtain ⟨v, hv, _⟩ := r.get (List.getElem?_eq_getElem hi)
        exact ⟨vs, v, SqL.of e, hv⟩
  stop := fun i H A h hi => by
    cases h with
    | cons h _ =>
      cases h with
      | @lst _ vs _ e n r => exact ⟨vs, SqL.of e, by rw [r.length]; exact hi⟩
  yld := fun i H A x H' d h hd hy => by
    cases h with
    | cons h _ =>
      cases h with
      | @lst _ vs _ e n r =>
        obtain ⟨rfl, hy⟩ := hy
        obtain ⟨v, hv, q⟩ := r.get hd
        have := hy vs (SqL.of e)
        rw [hv] at this; cases this
        exact ⟨Same.refl _, q⟩
theorem it_tup {L : Ly} {X : Cx} {a : Addr} {xs : List PyData} (hK : L.K = X.K) : ItOk L (Itt X.K a) [.tuple xs] [.ref a] xs where
  go := fun i H A h hi => by
    cases h with
    | cons h _ =>
      cases h with
      | @tup _ vs _ e r =>
        obtain ⟨v, hv, _⟩ := r.get (List.getElem?_eq_getElem hi)
        exact ⟨vs, v, by rw [← hK]; exact e, hv⟩
  stop := fun i H A h hi => by
    cases h with
    | cons h _ =>
      cases h with
      | @tup _ vs _ e r => exact ⟨vs, by rw [← hK]; exact e, by rw [r.length]; exact hi⟩
  yld := fun i H A x H' d h hd hy => by
    cases h with
    | cons h _ =>
      cases h with
      | @tup _ vs _ e r =>
        obtain ⟨rfl, hy⟩ := hy
        obtain ⟨v, hv, q⟩ := r.get hd
        have := hy vs (by rw [← hK]; exact e)
        rw [hv] at this; cases this
        exact ⟨Same.refl _, q⟩
theorem it_str {L : Ly} {z : Str} : ItOk L (Its z) [] [] (charsD z) where
  go := fun i H A h hi => by
    have q : i < z.cps.size := by simpa [charsD] using hi
    exact q
  stop := fun i H A h hi => by
    have q : z.cps.size ≤ i := by simpa [charsD] using hi
    exact q
  yld := fun i H A x H' d h hd hy => by
    obtain ⟨rfl, c, hc, rfl⟩ := hy
    unfold charsD at hd
    rw [List.getElem?_map, Array.getElem?_toList, hc] at hd
    cases hd
    exact ⟨Same.refl _, .str _⟩
theorem i_plain {L : Ly} {X : Cx} {tg e : Expr} {f : Ev} {q : Bool} (hK : L.K = X.K) (h : PE X e (tE L f q)) : PI X tg e (tI L (vPlain f) q) :=
  PI.imp (PI.or (pi_list (e_frz h)) (PI.or (pi_tup (e_frz h)) (pi_str (e_frz h)))) fun σ H R hh => by
    obtain ⟨env, B, F, m, ds, xs, env', he, k⟩ := hh
    obtain ⟨⟨r, e1⟩, h1, he⟩ := bind_eq he
    dsimp only at he
    split at he
    · rename_i xs
      cases he
      refine .inl ⟨env, B, F, m, _, _, h1, fun v H' F' T' o => ?_⟩
      have x := o.ms.res1
      cases x with
      | w x =>
        cases x with
        | d x =>
          have x' := x
          cases x with
          | @lst a vs _ e n r => exact ⟨a, rfl, ⟨vs, SqL.of e⟩, k [.ref a] H' F' _ o (it_list hK)⟩
    · rename_i xs
      cases he
      refine .inr (.inl ⟨env, B, F, m, _, _, h1, fun v H' F' T' o => ?_⟩)
      have x := o.ms.res1
      cases x with
      | w x =>
        cases x with
        | d x =>
          cases x with
          | @tup a vs _ e r => exact ⟨a, rfl, ⟨vs, by rw [← hK]; exact e⟩, k [.ref a] H' F' _ o (it_tup hK)⟩
    · rename_i z
      cases he
      refine .inr (.inr ⟨env, B, F, m, _, _, h1, fun v H' F' T' o => ?_⟩)
      have x := o.ms.res1
      cases x with
      | w x =>
        cases x with
        | d x =>
          cases x
          exact ⟨z, rfl, k [] H' F' _ (out_bare o.ms ⟨o.st, o.nw⟩) it_str⟩
    · cases he
/-- range -/
def rangeD (lo hi : Int) : List PyData := (List.range (hi - lo).toNat).map fun (i : Nat) => PyData.int (lo + (i : Int))
/-- how far a range may go -/
def RG : Nat := 4611686018427387904
theorem rg_of {j : Int} (h : j.natAbs < RG) : -(2 ^ 62) ≤ j ∧ j < 2 ^ 62 := by
  have h' : j.natAbs < 4611686018427387904 := h
  omega
def vRange1 (g : Es) : Sv := fun env => do
  let (rs, e1) ← g env
  match rs with
  | [.w (.d (.int j))] => do
    need (decide (j.natAbs < RG))
    pure (([], rangeD 0 j), e1)
  | _ => .fail
def vRange2 (g : Es) : Sv := fun env => do
  let (rs, e1) ← g env
  match rs with
  | [.w (.d (.int i)), .w (.d (.int j))] => do
    need (decide (i.natAbs < RG) && decide (j.natAbs < RG))
    pure (([], rangeD i j), e1)
  | _ => .fail
theorem it_rng {L : Ly} {lo hi' : Int} : ItOk L (Itr lo (hi' - lo).toNat) [] [] (rangeD lo hi') where
  go := fun i H A h h2 => by
    have q : i < (hi' - lo).toNat := by simpa [rangeD] using h2
    exact q
  stop := fun i H A h h2 => by
    have q : (hi' - lo).toNat ≤ i := by simpa [rangeD] using h2
    exact q
  yld := fun i H A x H' d h hd hy => by
    obtain ⟨rfl, rfl⟩ := hy
    unfold rangeD at hd
    rw [List.getElem?_map] at hd
    obtain ⟨j, hj, rfl⟩ := Option.map_eq_some_iff.mp hd
    have : j = i := by
      rw [List.getElem?_range] at hj
      · cases hj; rfl
      · have := (List.getElem?_eq_some_iff.mp hj).1
        simpa using this
    subst this
    exact ⟨Same.refl _, .int _⟩
theorem i_range1 {L : Ly} {X : Cx} {tg a : Expr} {p pos : Pos} {g : Es} {q : Bool} (hg : Gl X "range") (hm : X.mg "range" = none) (hs : noStar a = true) (ha : PA X [a] (tA L g q)) : PI X tg (.Call (.Name "range" p) [a] [] pos) (tI L (vRange1 g) q) :=
  PI.imp (pi_range1 hg hm ha (star_cons hs)) fun σ H R hh => by
    obtain ⟨env, B, F, m, ds, xs, env', he, k⟩ := hh
    obtain ⟨⟨rs, e1⟩, h1, he⟩ := bind_eq he
    refine ⟨env, B, F, m, rs, e1, h1, fun vs H' F' T' o => ?_⟩
    dsimp only at he
    split at he
    · rename_i j
      obtain ⟨_, h2, he⟩ := bind_eq he
      cases he
      have hz := rg_of (of_decide_eq_true (need_eq h2))
      have d := data_of (ds := [.int j]) o.ms.res rfl
      cases d with
      | cons d t =>
        cases t
        cases d
        refine ⟨j, rfl, hz.1, hz.2, k [] H' F' _ (out_bare o.ms ⟨o.st, o.nw⟩) ?_⟩
        have := it_rng (L := L) (lo := 0) (hi' := j)
        rwa [Int.sub_zero] at this
    · cases he
theorem i_range2 {L : Ly} {X : Cx} {tg a b : Expr} {p pos : Pos} {g : Es} {q : Bool} (hg : Gl X "range") (hm : X.mg "range" = none) (hs : noStar a = true) (hs2 : noStar b = true) (ha : PA X [a, b] (tA L g q)) : PI X tg (.Call (.Name "range" p) [a, b] [] pos) (tI L (vRange2 g) q) :=
  PI.imp (pi_range2 hg hm ha (by rw [star_cons hs, star_cons hs2]; rfl) (star_cons hs2)) fun σ H R hh => by
    obtain ⟨env, B, F, m, ds, xs, env', he, k⟩ := hh
    obtain ⟨⟨rs, e1⟩, h1, he⟩ := bind_eq he
    refine ⟨env, B, F, m, rs, e1, h1, fun vs H' F' T' o => ?_⟩
    dsimp only at he
    split at he
    · rename_i i j
      obtain ⟨_, h2, he⟩ := bind_eq he
      cases he
      have hz0 := need_eq h2
      simp only [Bool.and_eq_true, decide_eq_true_eq] at hz0
      have hz : ((-(2 ^ 62) ≤ i ∧ i < 2 ^ 62) ∧ -(2 ^ 62) ≤ j) ∧ j < 2 ^ 62 := ⟨⟨rg_of hz0.1, (rg_of hz0.2).1⟩, (rg_of hz0.2).2⟩
      have d := data_of (ds := [.int i, .int j]) o.ms.res rfl
      cases d with
      | cons d t =>
        cases t with
        | cons d2 t =>
          cases t
          cases d
          cases d2
          exact ⟨i, j, rfl, ⟨hz.1.1.1, hz.1.1.2, hz.1.2, hz.2⟩, k [] H' F' _ (out_bare o.ms ⟨o.st, o.nw⟩) it_rng⟩
    · cases he

/-! ### for -/
def forL (put : PyData → Env → Rs Env) (body : Ex) : List PyData → Ex
  | [], env => .ok (.nx, env)
  | x :: xs, env => do
    let e1 ← put x env
    let (fl, e2) ← body e1
    match fl with
    | .nx => forL put body xs e2
    | .cnt => forL put body xs e2
    | .brk => .ok (.nx, e2)
    | .ret r => .ok (.ret r, e2)
def xFor (put : PyData → Env → Rs Env) (s : Sv) (body : Ex) : Ex := fun env => do
  let ((_, xs), e1) ← s env
  forL put body xs e1
section
variable {L : Ly} {B : AS} {env env' : Env} {σ : St} {H H' : Hp} {F F' T T' : List Addr} {vs : List V} {ds : List PyData}
/-- pending data go on -/
theorem data_next {F1 : List Addr} {Z : AS} (h : DqAll L.K (Av B F []) H vs ds) (s : Stp Z H H') (hz : ∀ a, Z a → a ∈ F) (nw : ∀ a, a ∈ F' → a ∈ F ∨ H a = none) : DqAll L.K (Av B F' []) H' vs ds :=
  h.step s (fun a q => .inr (.inl (hz a q))) fun a q => by
    rcases q with q | q | q
    · exact .inl (.inl q)
    · exact (nw a q).imp (fun z => .inr (.inl z)) id
    · cases q
end
theorem tFor_of {L : Ly} {ok : Okk} {l : List Nat} {put : PyData → Env → Rs Env} {s : Sv} {body : Ex} {q : Bool} {D : Ends} {σ : St} {H : Hp} (h : tS L ok (xFor put s body) D σ H) : tFor (tI L s q) (tG L ok l put) (tS L ok body) D σ H := by
  obtain ⟨env, B, F, m, fl, env', he, k⟩ := h
  obtain ⟨⟨⟨ds, xs⟩, e1⟩, h1, he⟩ := bind_eq he
  refine ⟨env, B, F, m, ds, xs, e1, h1, fun vs H1 F1 J o it => ?_⟩
  have d1 : DqAll L.K (Av B F1 []) H1 vs ds := data_of o.ms.res (data_all ds)
  let W : Nat → Nat → St → Hp → Prop := fun i n σ2 H2 => n = xs.length - i ∧ i ≤ xs.length ∧ Kp ok σ σ2 ∧ ∃ e F2, MS L B e σ2 H2 F2 [] [] [] ∧ DqAll L.K (Av B F2 []) H2 vs ds ∧ Stp (· ∈ F) H H2 ∧ (∀ a, a ∈ F2 → a ∈ F ∨ H a = none) ∧ forL put body (xs.drop i) e = .ok (fl, env')
  refine ⟨W, ⟨xs.length, by simp [W], Nat.zero_le _, Kp.refl, e1, F1, o.ms.bare, d1, o.st.mono fun x h => .inl h.2, fun a h => o.nw a (.inl h), he⟩, ?_⟩
  rintro i n σ2 H2 ⟨rfl, hi, k2, e, F2, m2, d2, s2, n2, hl⟩
  by_cases hlt : i < xs.length
  · refine .inr ⟨it.go i H2 _ d2 hlt, fun σ' H' => ∃ n', n' < xs.length - i ∧ W (i + 1) n' σ' H', fun _ _ z => z, fun x H3 hy => ?_⟩
    have hd : xs[i]? = some xs[i] := List.getElem?_eq_getElem hlt
    obtain ⟨sm, dx⟩ := it.yld i H2 _ x H3 _ d2 hd hy
    rw [List.drop_eq_getElem_cons hlt] at hl
    obtain ⟨e3, h3, hl⟩ := bind_eq hl
    obtain ⟨⟨f4, e4⟩, h4, hl⟩ := bind_eq hl
    have m3 := m2.same sm
    have d3 : DqAll L.K (Av B F2 []) H3 vs ds := d2.same sm fun b z => .inl z
    have s3 : Stp (· ∈ F) H H3 := s2.trans (stp_of sm) (fun _ z => z) fun _ z => z.elim
    refine ⟨e, B, F2, xs[i], e3, { m3 with res := .cons (T := []) (U := []) (.w (.d dx)) .nil }, h3, fun σ4 F4 m4 _ k4 hF4 => ?_⟩
    refine ⟨e3, B, F4, m4, f4, e4, h4, fun σ5 vs5 H5 F5 T5 o5 => ?_⟩
    have d5 : ∀ {F6 : List Addr}, (∀ a, a ∈ F6 → a ∈ F5 ∨ a ∈ T5) → DqAll L.K (Av B F6 []) H5 vs ds := fun {F6} hF6 => data_next (F1 := []) (d3.sub (A' := Av B F4 []) fun b z => by
      rcases z with z | z | z
      · exact .inl z
      · exact .inr (.inl (hF4 b z))
      · cases z) o5.st (fun _ z => z) fun a z => o5.nw a (hF6 a z)
    have s5 : Stp (· ∈ F) H H5 := s3.trans o5.st (fun _ z => z) fun a z => n2 a (hF4 a z)
    have n5 : ∀ a, a ∈ F5 ∨ a ∈ T5 → a ∈ F ∨ H a = none := fun a z => by
      rcases o5.nw a z with z | z
      · exact n2 a (hF4 a z)
      · by_cases hz : H a = none
        · exact .inr hz
        · by_cases hf : a ∈ F
          · exact .inl hf
          · exact absurd z (by rw [s3.there hf hz]; exact hz)
    have k5 : Kp ok σ σ5 := (k2.trans k4).trans o5.kp
    have again : forL put body (xs.drop (i + 1)) e4 = .ok (fl, env') → MS L B e4 σ5 H5 F5 [] [] [] → ∃ n', n' < xs.length - i ∧ W (i + 1) n' σ5 H5 := fun hl m5 =>
      ⟨xs.length - (i + 1), by omega, rfl, hlt, k5, e4, F5, m5, d5 fun a z => .inl z, s5, fun a z => n5 a (.inl z), hl⟩
    cases f4 with
    | nx => exact again hl o5.ms.bare
    | cnt => exact again hl o5.ms.bare
    | brk =>
      cases hl
      exact k σ5 [] H5 F5 [] ⟨k5, o5.ms.bare, s5, fun a z => z.elim (fun z => n5 a (.inl z)) fun z => by cases z⟩
    | ret r =>
      cases hl
      exact k σ5 vs5 H5 F5 T5 ⟨k5, o5.ms, s5, n5⟩
  · have e0 : i = xs.length := by omega
    subst e0
    rw [List.drop_length] at hl
    cases hl
    exact .inl ⟨it.stop _ H2 _ d2 (Nat.le_refl _), k σ2 [] H2 F2 [] ⟨k2, m2, s2, fun a z => z.elim (n2 a) fun z => by cases z⟩⟩
theorem s_for {L : Ly} {ok : Okk} {X : Cx} {l : List Nat} {tg iter : Expr} {body : List Stmt} {pos : Pos} {put : PyData → Env → Rs Env} {s : Sv} {b : Ex} {q : Bool} (hp : PassesOwn (model X.prog X.w) X.A X.env X.xe) (hc : X.calm = true) (hi : PI X tg iter (tI L s q)) (hg : PG X tg (tG L ok l put)) (hb : PSs X body (tS L ok b))
    (hs : ∀ x, foldedSetIterable iter X.env x = pure x) : PS X (.For tg iter body [] pos) (tS L ok (xFor put s b)) := PS.imp (ps_for hp hc hi hg hb hs) fun _ _ _ h => tFor_of h

/-! ### while -/
def whileL (c : Tv) (body : Ex) : Nat → Ex
  | 0, _ => .fail
  | n + 1, env => do
    let (b, e1) ← c env
    if b then do
      let (fl, e2) ← body e1
      match fl with
      | .nx => whileL c body n e2
      | .cnt => whileL c body n e2
      | .brk => .ok (.nx, e2)
      | .ret r => .ok (.ret r, e2)
    else .ok (.nx, e1)
theorem tWhile_of {L : Ly} {ok : Okk} {c : Tv} {body : Ex} {q : Bool} {n : Nat} {D : Ends} {σ : St} {H : Hp} (h : tS L ok (whileL c body n) D σ H) : tWhile (tT L c q) (tS L ok body) D σ H := by
  obtain ⟨env, B, F, m, fl, env', he, k⟩ := h
  let W : Nat → St → Hp → Prop := fun n σ2 H2 => Kp ok σ σ2 ∧ ∃ e F2, MS L B e σ2 H2 F2 [] [] [] ∧ Stp (· ∈ F) H H2 ∧ (∀ a, a ∈ F2 → a ∈ F ∨ H a = none) ∧ whileL c body n e = .ok (fl, env')
  refine ⟨W, ⟨n, Kp.refl, env, F, m, Stp.refl, fun a z => .inl z, he⟩, ?_⟩
  rintro n σ2 H2 ⟨k2, e, F2, m2, s2, n2, hl⟩
  cases n with
  | zero => cases hl
  | succ n =>
    obtain ⟨⟨b, e1⟩, h1, hl⟩ := bind_eq hl
    refine ⟨e, B, F2, m2, b, e1, h1, fun H3 F3 o => ?_⟩
    have s3 : Stp (· ∈ F) H H3 := s2.trans o.st (fun _ z => z) fun a z => n2 a z.2
    have there : ∀ {H4 : Hp} (s4 : Stp (· ∈ F) H H4) {a : Addr}, H4 a = none → a ∈ F ∨ H a = none := fun {H4} s4 {a} z => by
      by_cases hz : H a = none
      · exact .inr hz
      · by_cases hf : a ∈ F
        · exact .inl hf
        · exact absurd z (by rw [s4.there hf hz]; exact hz)
    have n3 : ∀ a, a ∈ F3 → a ∈ F ∨ H a = none := fun a z => (o.nw a (.inl z)).elim (n2 a) (there s2)
    cases b with
    | true =>
      refine iteT ⟨fun σ' H' => ∃ n', n' < n + 1 ∧ W n' σ' H', fun _ _ z => z, ?_⟩
      have hl' : (body e1 >>= fun p => match p with
        | (fl, e2) => match fl with
          | .nx => whileL c body n e2
          | .cnt => whileL c body n e2
          | .brk => .ok (.nx, e2)
          | .ret r => .ok (.ret r, e2)) = .ok (fl, env') := hl
      obtain ⟨⟨f4, e4⟩, h4, hl'⟩ := bind_eq hl'
      refine ⟨e1, B, F3, o.ms, f4, e4, h4, fun σ5 vs5 H5 F5 T5 o5 => ?_⟩
      have s5 : Stp (· ∈ F) H H5 := s3.trans o5.st (fun _ z => z) n3
      have n5 : ∀ a, a ∈ F5 ∨ a ∈ T5 → a ∈ F ∨ H a = none := fun a z => (o5.nw a z).elim (n3 a) (there s3)
      have k5 : Kp ok σ σ5 := k2.trans o5.kp
      have again : whileL c body n e4 = .ok (fl, env') → MS L B e4 σ5 H5 F5 [] [] [] → ∃ n', n' < n + 1 ∧ W n' σ5 H5 := fun hl m5 => ⟨n, Nat.lt_succ_self n, k5, e4, F5, m5, s5, fun a z => n5 a (.inl z), hl⟩
      cases f4 with
      | nx => exact again hl' o5.ms.bare
      | cnt => exact again hl' o5.ms.bare
      | brk =>
        cases hl'
        exact k σ5 [] H5 F5 [] ⟨k5, o5.ms.bare, s5, fun a z => z.elim (fun z => n5 a (.inl z)) fun z => by cases z⟩
      | ret r =>
        cases hl'
        exact k σ5 vs5 H5 F5 T5 ⟨k5, o5.ms, s5, n5⟩
    | false =>
      have hl' : (Rs.ok (Fl.nx, e1) : Rs (Fl × Env)) = .ok (fl, env') := hl
      cases hl'
      exact iteF (k σ2 [] H3 F3 [] ⟨k2, o.ms, s3, fun a z => z.elim (n3 a) fun z => by cases z⟩)
theorem s_while {L : Ly} {ok : Okk} {X : Cx} {c : Expr} {body : List Stmt} {pos : Pos} {t : Tv} {b : Ex} {q : Bool} {n : Nat} (hp : PassesOwn (model X.prog X.w) X.A X.env X.xe) (hc : PT X c (tT L t q)) (hb : PSs X body (tS L ok b)) : PS X (.While c body [] pos) (tS L ok (whileL t b n)) :=
  PS.imp (ps_while hp hc hb) fun _ _ _ h => tWhile_of h
end Rf
end

section
set_option Elab.async false
set_option linter.all false
set_option maxRecDepth 10000
/-! List comprehensions. -/
namespace Rf
open PySem PySem.Spec PyProof.Rows L2

/-- the block's own slots are empty -/
def wipeE (env : Env) : List Nat → Env
  | [] => env
  | v :: vs => (wipeE env vs).set v none
/-- .. and hold again what they held -/
def backE (e1 : Env) : List Nat → Env → Env
  | [], env => env
  | v :: vs, env => (backE e1 vs env).set v (e1.getD v none)
def freeSlot (env : Env) (i : Nat) : Bool := match env[i]? with
  | some none => true
  | some (some (.d _)) => true
  | _ => false
/-- one after another: the items that pass, their elements -/
def compL (own : List Nat) (put : PyData → Env → Rs Env) (cond : Tv) (elt : Ev) : List PyData → Env → List PyData → Rs (List PyData × Env)
  | [], env, acc => .ok (acc, env)
  | x :: xs, env, acc => do
    let ea ← put x env
    let (b, eb) ← cond ea
    if b then do
      let (r, ec) ← elt eb
      let (y, ed) ← froz r ec
      need (decide (acc.length < SZ) && own.all (freeSlot ed))
      compL own put cond elt xs (wipeE ed own) (acc ++ [y])
    else do
      need (own.all (freeSlot eb))
      compL own put cond elt xs (wipeE eb own) acc
def fComp (own : List Nat) (put : PyData → Env → Rs Env) (s : Sv) (cond : Tv) (elt : Ev) : Ev := fun env => do
  let ((_, xs), e1) ← s env
  need (own.all (freeSlot e1))
  let (ys, e2) ← compL own put cond elt xs (wipeE e1 own) []
  pure (.w (.ol ys), backE e1 own e2)
section
variable {L : Ly} {A : AS} {H : Hp}
theorem EnvR.free : ∀ {env : Env} {σ : St} {F : List Addr} {i : Nat} {x : Option V}, EnvR L A H env σ F → env[i]? = some none → EnvR L A H env (σ.set i x) F
  | _, _, _, _, _, .nil, e => by simp at e
  | _, _, _, 0, x, .hol r, _ => by simpa using EnvR.hol r
  | _, _, _, 0, _, .val _ _, e => by simp at e
  | _, _, _, i + 1, _, .hol r, e => by simpa using EnvR.hol (EnvR.free r (by simpa using e))
  | _, _, _, i + 1, _, .val y r, e => by simpa using EnvR.val y (EnvR.free r (by simpa using e))
theorem set_none_same {env : Env} {i : Nat} (h : env[i]? = some none) : env.set i none = env := set_self h
/-- a slot that holds a datum or nothing is emptied -/
theorem EnvR.wipe1 {env : Env} {σ : St} {F : List Addr} {i : Nat} (r : EnvR L A H env σ F) (h : freeSlot env i = true) : EnvR L A H (env.set i none) (σ.set i none) F := by
  unfold freeSlot at h
  split at h
  · rename_i e
    rw [set_none_same e]
    exact r.free e
  · rename_i d e
    obtain ⟨u, F1, G, F2, hF, hσ, x, k⟩ := r.get e
    have hG : G = [] := by cases x; rfl
    subst hG
    obtain ⟨_, k2⟩ := k (fun _ => False) H A Stp.refl (fun _ h => h.elim) (fun b h => .inl h) fun _ _ h => h
    rw [hF]
    simpa using k2 none
  · cases h
theorem free_set {env : Env} {i j : Nat} (h : freeSlot env i = true) : freeSlot (env.set j none) i = true := by
  unfold freeSlot at h ⊢
  rw [List.getElem?_set]
  by_cases hij : j = i
  · subst hij
    by_cases hl : j < env.length
    · simp [hl]
    · rw [List.getElem?_eq_none (by omega)] at h
      cases h
  · simp only [hij, if_false]; exact h
theorem free_wipe {env : Env} {i : Nat} (h : freeSlot env i = true) : ∀ own : List Nat, freeSlot (wipeE env own) i = true
  | [] => h
  | v :: vs => free_set (free_wipe h vs)
theorem EnvR.wipes {env : Env} {σ : St} {F : List Addr} (r : EnvR L A H env σ F) : ∀ {own : List Nat}, own.all (freeSlot env) = true → EnvR L A H (wipeE env own) (wipe σ own) F
  | [], _ => r
  | v :: vs, h => by
    rw [List.all_cons, Bool.and_eq_true] at h
    exact (EnvR.wipes r h.2).wipe1 (free_wipe h.1 vs)
theorem wipe_at {env : Env} : ∀ {own : List Nat} {i : Nat}, i ∈ own → i < env.length → (wipeE env own)[i]? = some none
  | v :: vs, i, h, hl => by
    show ((wipeE env vs).set v none)[i]? = _
    rw [List.getElem?_set]
    have len : (wipeE env vs).length = env.length := by
      clear h
      induction vs with
      | nil => rfl
      | cons u us ih => show ((wipeE env us).set u none).length = _; rw [List.length_set, ih]
    by_cases hv : v = i
    · subst hv; simp [len, hl]
    · simp only [hv, if_false]
      exact wipe_at ((List.mem_cons.mp h).resolve_left fun e => hv e.symm) hl
theorem wipe_len {env : Env} (own : List Nat) : (wipeE env own).length = env.length := by
  induction own with
  | nil => rfl
  | cons u us ih => show ((wipeE env us).set u none).length = _; rw [List.length_set, ih]
theorem wipe_comm {σ : St} {v : Nat} : ∀ vs : List Nat, wipe (σ.set v none) vs = (wipe σ vs).set v none
  | [] => rfl
  | u :: us => by
    show (wipe (σ.set v none) us).set u none = ((wipe σ us).set u none).set v none
    rw [wipe_comm us]
    by_cases h : u = v
    · subst h; rfl
    · exact List.set_comm _ _ fun e => h e.symm
/-- what the slots held before is there again -/
theorem EnvR.back {e1 : Env} : ∀ {own : List Nat} {env : Env} {σ : St} {F : List Addr}, EnvR L A H env (wipe σ own) F → own.Nodup → (∀ i ∈ own, env[i]? = some none) → (∀ i ∈ own, e1[i]? = some none ∨ ∃ d u, e1[i]? = some (some (.d d)) ∧ σ[i]? = some (some u) ∧ Dq L.K A H u d) → EnvR L A H (backE e1 own env) σ F
  | [], _, _, _, r, _, _, _ => r
  | v :: vs, env, σ, F, r, nd, hn, hd => by
    have nd' := List.nodup_cons.mp nd
    have r' : EnvR L A H env (wipe (σ.set v none) vs) F := by rw [wipe_comm]; exact r
    have q := EnvR.back (own := vs) r' nd'.2 (fun i hi => hn i (List.mem_cons_of_mem _ hi)) fun i hi => by
      have hne : v ≠ i := fun e => nd'.1 (e ▸ hi)
      rcases hd i (List.mem_cons_of_mem _ hi) with h | ⟨d, u, h1, h2, h3⟩
      · exact .inl h
      · exact .inr ⟨d, u, h1, by rw [List.getElem?_set_ne hne]; exact h2, h3⟩
    have stay : ∀ (us : List Nat) (e : Env), v ∉ us → (backE e1 us e)[v]? = e[v]? := by
      intro us
      induction us with
      | nil => intro e _; rfl
      | cons u us ih =>
        intro e h
        show ((backE e1 us e).set u _)[v]? = _
        rw [List.getElem?_set_ne (fun z => h (by simp [z])), ih e fun z => h (List.mem_cons_of_mem _ z)]
    have hv : (backE e1 vs env)[v]? = some none := (stay vs env nd'.1).trans (hn v List.mem_cons_self)
    show EnvR L A H ((backE e1 vs env).set v (e1.getD v none)) σ F
    have ssame : ∀ x : Option V, σ[v]? = some x → (σ.set v none).set v x = σ := fun x h => by rw [List.set_set]; exact set_self h
    rcases hd v List.mem_cons_self with h | ⟨d, u, h1, h2, h3⟩
    · have e0 : e1.getD v none = none := by rw [List.getD_eq_getElem?_getD, h]; rfl
      rw [e0, set_none_same hv]
      cases hs : σ[v]? with
      | none => 
        have : σ.set v none = σ := List.set_eq_of_length_le (by rw [List.getElem?_eq_none_iff] at hs; exact hs)
        rw [this] at q; exact q
      | some x =>
        have q2 := q.free (x := x) hv
        rw [ssame x hs] at q2; exact q2
    · have e0 : e1.getD v none = some (.d d) := by rw [List.getD_eq_getElem?_getD, h1]; rfl
      rw [e0]
      obtain ⟨F1, F2, hF, q2⟩ := q.put hv (.d h3)
      rw [ssame _ h2] at q2
      rw [hF]; simpa using q2
theorem EnvR.datum {env : Env} {σ : St} {F : List Addr} {i : Nat} {d : PyData} (r : EnvR L A H env σ F) (h : env[i]? = some (some (.d d))) : ∃ u, σ[i]? = some (some u) ∧ Dq L.K A H u d := by
  obtain ⟨u, F1, G, F2, hF, hσ, x, k⟩ := r.get h
  cases x with
  | d x => exact ⟨u, hσ, x⟩
end
theorem wipe_get {σ : St} : ∀ {own : List Nat} {j : Nat}, (wipe σ own)[j]? = if j ∈ own then (if j < σ.length then some none else none) else σ[j]?
  | [], j => by simp [wipe]
  | v :: vs, j => by
    show ((wipe σ vs).set v none)[j]? = _
    rw [List.getElem?_set, wipe_length, wipe_get (own := vs)]
    by_cases h : v = j
    · subst h
      by_cases hl : v < σ.length <;> simp [hl]
    · have h' : ¬ j = v := fun e => h e.symm
      simp only [h, if_false, List.mem_cons, h', false_or]
theorem wipe_ch {σ σ' : St} {l own : List Nat} (c : Ch l σ σ') (h : ∀ j ∈ l, j ∈ own) : wipe σ' own = wipe σ own := by
  apply List.ext_getElem?
  intro j
  rw [wipe_get, wipe_get, c.1]
  by_cases hj : j ∈ own
  · simp [hj]
  · simp only [hj, if_false]
    exact c.2 j fun z => hj (h j z)
theorem wipe_idem {σ : St} (own : List Nat) : wipe (wipe σ own) own = wipe σ own := by
  apply List.ext_getElem?
  intro j
  rw [wipe_get, wipe_length]
  by_cases hj : j ∈ own
  · simp only [hj, if_true]
    rw [wipe_get]; simp [hj]
  · simp only [hj, if_false]
section
variable {L : Ly} {B : AS} {env env' : Env} {σ : St} {H H' : Hp} {F F' T T' : List Addr} {rs : List R} {vs : List V}
theorem MS.wipes {own : List Nat} (m : MS L B env σ H F rs vs T) (h : own.all (freeSlot env) = true) : MS L B (wipeE env own) (wipe σ own) H F [] [] [] :=
  ⟨m.bare.env.wipes h, .nil, m.bare.nd, m.bare.dj, m.al⟩
/-- a list that is not ours is written -/
theorem MS.other {D : Addr} {acc ys : List V} (m : MS L B env σ H F [] [] []) (hB : B D) (hD : H D = some (.lst acc)) : MS L B env σ (upd H D (.lst ys)) F [] [] [] where
  env := m.env.step (Z := (· = D)) (Stp.wrote rfl hD (fun _ z => by cases z) (fun _ _ z => by cases z)) (fun b z => .inl (by rw [z]; exact hB)) (fun b z => .inl z) fun a ha z => m.dj a (.inl ha) (by rw [z]; exact hB)
  res := .nil
  nd := m.nd
  dj := m.dj
  al := fun b z => by
    by_cases e : b = D
    · rw [e, upd_same]; intro q; cases q
    · rw [upd_ne e]; exact m.al b z
end
theorem tLc_of {L : Ly} {ok : Okk} {l own : List Nat} {put : PyData → Env → Rs Env} {s : Sv} {cond : Tv} {elt : Ev} {qs qc qe : Bool} (hown : own.Nodup) (hl : ∀ j ∈ l, j ∈ own) {σ : St} {H : Hp} {Q : VK} (h : tE L (fComp own put s cond elt) (qs && qc && qe) σ H Q) :
    tLc (tI L s qs) (tG L ok l put) (tT L cond qc) (tE L elt qe) own σ H Q := by
  obtain ⟨env, B, F, m, r, env', he, k⟩ := h
  obtain ⟨⟨⟨ds, xs⟩, e1⟩, h1, he⟩ := bind_eq he
  obtain ⟨_, h2, he⟩ := bind_eq he
  obtain ⟨⟨ys, e2⟩, h3, he⟩ := bind_eq he
  cases he
  have h2 := need_eq h2
  refine ⟨env, B, F, m, ds, xs, e1, h1, fun vs H1 F1 J o it D hD => ?_⟩
  generalize hqq : (qs && qc && qe) = qq at k
  have q1 : qs = false → qq = false := fun z => by rw [← hqq, z]; rfl
  have q2 : qc = false → qq = false := fun z => by rw [← hqq, z]; simp
  have q3 : qe = false → qq = false := fun z => by rw [← hqq, z]; simp
  have d1 : DqAll L.K (Av B F1 []) H1 vs ds := data_of o.ms.res (data_all ds)
  -- what is known of the start
  have g1 : Go qq H F H1 F1 [] := ⟨o.st.mono fun x z => .inl ⟨q1 z.1, z.2⟩, fun a z => o.nw a z⟩
  have frees : ∀ {e : Env}, own.all (freeSlot e) = true → ∀ i ∈ own, i < e.length := fun {e} h i hi => by
    have := List.all_eq_true.mp h i hi
    unfold freeSlot at this
    by_cases hl : i < e.length
    · exact hl
    · rw [List.getElem?_eq_none (by omega)] at this; cases this
  have hold : ∀ i ∈ own, e1[i]? = some none ∨ ∃ d u, e1[i]? = some (some (.d d)) ∧ σ[i]? = some (some u) ∧ Dq L.K (Av B F1 []) H1 u d := fun i hi => by
    have := List.all_eq_true.mp h2 i hi
    unfold freeSlot at this
    split at this
    · exact .inl (by assumption)
    · rename_i d hd
      obtain ⟨u, hu, q⟩ := o.ms.env.datum hd
      exact .inr ⟨d, u, hd, hu, q⟩
    · cases this
  -- the new list is nobody's
  let BD : AS := fun a => B a ∨ a = D
  have toD : ∀ {F2 : List Addr} {H2 : Hp}, (H2 D = none) → ∀ b, Av BD F2 [] b → Av B F2 [] b ∨ H2 b = none := fun {F2 H2} z b h => by
    rcases h with (h | h) | h | h
    · exact .inl (.inl h)
    · exact .inr (by rw [h]; exact z)
    · exact .inl (.inr (.inl h))
    · cases h
  let W : Nat → Nat → Hp → Prop := fun i n H2 => n = xs.length - i ∧ i ≤ xs.length ∧ ∃ e F2 acc zs, MS L BD e (wipe σ own) H2 F2 [] [] [] ∧ DqAll L.K (Av BD F2 []) H2 vs ds ∧ (∀ i ∈ own, e[i]? = some none) ∧
    (∀ i ∈ own, e1[i]? = some none ∨ ∃ d u, e1[i]? = some (some (.d d)) ∧ σ[i]? = some (some u) ∧ Dq L.K (Av BD F2 []) H2 u d) ∧
    H2 D = some (.lst acc) ∧ DqAll L.K (Av BD F2 []) H2 acc zs ∧ Go qq H F H2 F2 [D] ∧ compL own put cond elt (xs.drop i) e zs = .ok (ys, e2)
  have sD : Same H1 (upd H1 D (.lst [])) := same_new hD
  have fD : (qq = false ∧ D ∈ F) ∨ H D = none := g1.there' hD
  have nD : D ∉ F1 := fun z => o.ms.env.there D z hD
  have bD : ¬ B D := fun z => o.ms.al D z hD
  refine ⟨W, ⟨xs.length, by simp, Nat.zero_le _, wipeE e1 own, F1, [], [], ?_, ?_, fun i hi => wipe_at hi (frees h2 i hi), ?_, upd_same, .nil, ?_, h3⟩, ?_⟩
  · have mb := (o.ms.wipes h2).same sD
    refine ⟨(o.ms.wipes h2).env.step (stp_of sD) (fun _ z => z.elim) (toD hD) fun _ _ z => z, .nil, mb.nd, fun a z q => ?_, fun b z => ?_⟩
    · rcases q with q | q
      · exact mb.dj a z q
      · rcases z with z | z
        · rw [q] at z; exact nD z
        · cases z
    · rcases z with z | z
      · exact mb.al b z
      · rw [z, upd_same]; intro q; cases q
  · exact d1.same sD (toD hD)
  · intro i hi
    rcases hold i hi with z | ⟨d, u, z1, z2, z3⟩
    · exact .inl z
    · exact .inr ⟨d, u, z1, z2, z3.step (stp_of sD) (fun _ z => z.elim) (toD hD)⟩
  · have := g1.same sD
    exact ⟨this.st, fun a z => by
      rcases z with z | z
      · exact this.nw a (.inl z)
      · rw [List.mem_singleton.mp z]; exact fD.imp (·.2) id⟩
  rintro i n H2 ⟨rfl, hi, e, F2, acc, zs, m2, dd, hn, ho, hD2, da, g2, hc⟩
  have nD2 : D ∉ F2 := fun z => m2.dj D (.inl z) (.inr rfl)
  by_cases hlt : i < xs.length
  · refine .inr ⟨it.go i H2 _ dd hlt, fun H' => ∃ n', n' < xs.length - i ∧ W (i + 1) n' H', fun _ z => z, fun x H3 hy => ?_⟩
    have hd : xs[i]? = some xs[i] := List.getElem?_eq_getElem hlt
    obtain ⟨sm, dx⟩ := it.yld i H2 _ x H3 _ dd hd hy
    rw [List.drop_eq_getElem_cons hlt] at hc
    obtain ⟨ea, c1, hc⟩ := bind_eq hc
    obtain ⟨⟨b, eb⟩, c2, hc⟩ := bind_eq hc
    refine ⟨e, BD, F2, xs[i], ea, { m2.same sm with res := .cons (T := []) (U := []) (.w (.d dx)) .nil }, c1, fun σ4 F4 m4 ch4 _ hF4 => ⟨(wipe_ch ch4 hl).trans (wipe_idem own), ?_⟩⟩
    have hw4 : wipe σ4 own = wipe σ own := (wipe_ch ch4 hl).trans (wipe_idem own)
    have g4 : Go qq H F H3 F4 [D] := ⟨(g2.same sm).st, fun a z => g2.nw a (z.imp (hF4 a) id)⟩
    -- all that stands, carried to a later state
    have carry : ∀ {H5 : Hp} {F5 : List Addr}, Stp (· ∈ F4) H3 H5 → (∀ a, a ∈ F5 → a ∈ F4 ∨ H3 a = none) →
        DqAll L.K (Av BD F5 []) H5 vs ds ∧ (∀ i ∈ own, e1[i]? = some none ∨ ∃ d u, e1[i]? = some (some (.d d)) ∧ σ[i]? = some (some u) ∧ Dq L.K (Av BD F5 []) H5 u d) ∧ H5 D = some (.lst acc) ∧ DqAll L.K (Av BD F5 []) H5 acc zs := fun {H5 F5} s5 n5 => by
      have z4 : ∀ b, Av BD F4 [] b → Av BD F2 [] b := fun b z => by
        rcases z with z | z | z
        · exact .inl z
        · exact .inr (.inl (hF4 b z))
        · cases z
      have zz : ∀ b, b ∈ F4 → Av BD F4 [] b := fun b z => .inr (.inl z)
      have z5 : ∀ b, Av BD F5 [] b → Av BD F4 [] b ∨ H3 b = none := fun b z => by
        rcases z with z | z | z
        · exact .inl (.inl z)
        · exact (n5 b z).imp (fun z => .inr (.inl z)) id
        · cases z
      refine ⟨((dd.same sm fun b z => .inl z).sub z4).step s5 zz z5, fun i hi => ?_, s5.fr D _ (fun z => nD2 (hF4 D z)) (sm D _ hD2), ((da.same sm fun b z => .inl z).sub z4).step s5 zz z5⟩
      rcases ho i hi with z | ⟨d, u, y1, y2, y3⟩
      · exact .inl z
      · exact .inr ⟨d, u, y1, y2, ((y3.step (stp_of sm) (fun _ z => z.elim) fun b z => .inl z).sub z4).step s5 zz z5⟩
    refine ⟨ea, BD, F4, m4, b, eb, c2, fun H5 F5 o5 => ?_⟩
    have g5 : Go qq H F H5 F5 [D] := by simpa using g4.next o5 id q2
    have s5 : Stp (· ∈ F4) H3 H5 := o5.st.mono fun x z => .inl z.2
    cases b with
    | false =>
      refine iteF ?_
      obtain ⟨_, c3, hc⟩ := bind_eq hc
      have c3 := need_eq c3
      obtain ⟨y1, y2, y3, y4⟩ := carry s5 fun a z => o5.nw a (.inl z)
      have m6 := o5.ms.wipes c3
      rw [hw4] at m6
      exact ⟨xs.length - (i + 1), by omega, rfl, hlt, wipeE eb own, F5, acc, zs, m6, y1, fun i hi => wipe_at hi (frees c3 i hi), y2, y3, y4, g5, hc⟩
    | true =>
      refine iteT ?_
      obtain ⟨⟨r, ec⟩, c3, hc⟩ := bind_eq hc
      obtain ⟨⟨y, ed⟩, c4, hc⟩ := bind_eq hc
      obtain ⟨_, c5, hc⟩ := bind_eq hc
      have c5 := need_eq c5
      rw [Bool.and_eq_true] at c5
      refine ⟨eb, BD, F5, o5.ms, r, ec, c3, fun v H6 F6 T6 o6 => ?_⟩
      obtain ⟨F7, o7⟩ := o6.frz c4
      have g7 : Go qq H F H6 F7 [D] := by simpa using g5.next o7 id q3
      have n57 : ∀ a, a ∈ F7 → a ∈ F4 ∨ H3 a = none := fun a z => by
        rcases o7.nw a (.inl z) with z | z
        · exact o5.nw a (.inl z)
        · by_cases hz : H3 a = none
          · exact .inr hz
          · by_cases hf : a ∈ F4
            · exact .inl hf
            · exact absurd z (by rw [s5.there hf hz]; exact hz)
      have s7 : Stp (· ∈ F4) H3 H6 := s5.trans o7.st (fun _ z => z) fun a z => o5.nw a (.inl z.2)
      obtain ⟨y1, y2, y3, y4⟩ := carry s7 n57
      have dv : Dq L.K (Av BD F7 []) H6 v y := by
        have x := o7.ms.res1
        cases x with
        | w x => cases x with
          | d x => exact x
      have wr : Stp (· = D) H6 (upd H6 D (.lst (acc ++ [v]))) := Stp.wrote rfl y3 (fun _ z => by cases z) (fun _ _ z => by cases z)
      have zD : ∀ b, b = D → Av BD F7 [] b := fun b z => .inl (.inr z)
      have m8 := o7.ms.wipes c5.2
      rw [hw4] at m8
      refine ⟨acc, y3, ?_, xs.length - (i + 1), by omega, rfl, hlt, wipeE ed own, F7, acc ++ [v], zs ++ [y], m8.other (.inr rfl) y3, y1.step wr zD fun b z => .inl z, fun i hi => wipe_at hi (frees c5.2 i hi), fun i hi => ?_, upd_same, ?_, ?_, hc⟩
      · rw [y4.length]
        have := of_decide_eq_true c5.1
        rw [← SZ_eq]; exact this
      · rcases y2 i hi with z | ⟨d, u, x1, x2, x3⟩
        · exact .inl z
        · exact .inr ⟨d, u, x1, x2, x3.step wr zD fun b z => .inl z⟩
      · exact (y4.append (.cons dv .nil)).step wr zD fun b z => .inl z
      · exact ⟨g7.st.trans wr (fun _ z => z) fun b z => by rw [z]; exact fD, g7.nw⟩
  · have e0 : i = xs.length := by omega
    subst e0
    rw [List.drop_length] at hc
    cases hc
    have back : ∀ b, Av B F2 [D] b → Av BD F2 [] b := fun b z => by
      rcases z with z | z | z
      · exact .inl (.inl z)
      · exact .inr (.inl z)
      · exact .inl (.inr (List.mem_singleton.mp z))
    refine .inl ⟨it.stop _ H2 _ dd (Nat.le_refl _), k (.ref D) H2 F2 [D] ⟨⟨?_, .cons (T := [D]) (U := []) (.w (.ol hD2 (da.sub back))) .nil, ?_, ?_, fun b z => m2.al b (.inl z)⟩, g2.st, g2.nw⟩⟩
    · exact (EnvR.back m2.env hown hn ho).sub back
    · refine List.nodup_append.mpr ⟨by simpa using m2.nd, by simp, fun a ha b hb e => ?_⟩
      rw [List.mem_singleton.mp hb] at e
      exact nD2 (e ▸ ha)
    · intro a z q
      rcases z with z | z
      · exact m2.dj a (.inl z) (.inl q)
      · rw [List.mem_singleton.mp z] at q; exact bD q
/-- [elt for tg in iter if cond] -/
theorem e_comp {L : Ly} {ok : Okk} {X : Cx} {elt tg iter : Expr} {ifs : List Expr} {scope : Scope} {own : List (Str × Nat)} {pos : Pos} {l : List Nat} {put : PyData → Env → Rs Env} {s : Sv} {cond : Tv} {f : Ev} {qs qc qe : Bool} (hc : X.calm = true) (hN : X.N.Nodup) (hown : (own.map (·.2)).Nodup) (hl : ∀ j ∈ l, j ∈ own.map (·.2))
    (hi : PI X tg iter (tI L s qs)) (bok : BlkOk X.N X.env.scope scope own)
    (hg : ∀ (s : Shared) (H : Hp) (C : Addr) (cl : List (Str × Addr)) (fp : List Addr), PG (X.blk s H scope (compEnvC scope cl C X.env) fp) tg (tG L ok l put))
    (ht : ∀ (s : Shared) (H : Hp) (C : Addr) (cl : List (Str × Addr)) (fp : List Addr), PTs (X.blk s H scope (compEnvC scope cl C X.env) fp) ifs (tT L cond qc))
    (he : ∀ (s : Shared) (H : Hp) (C : Addr) (cl : List (Str × Addr)) (fp : List Addr), PE (X.blk s H scope (compEnvC scope cl C X.env) fp) elt (tE L f qe)) (hs : ∀ x, foldedSetIterable iter X.env x = pure x) :
    PE X (.ListComp elt [⟨tg, iter, ifs, 0⟩] scope pos) (tE L (fComp (own.map (·.2)) put s cond f) (qs && qc && qe)) := PE.imp (pe_lc hc hN hi bok hg ht he hs) fun _ _ _ h => tLc_of hown hl h
def tvYes : Tv := fun env => .ok (true, env)
theorem PTs.imp {X : Cx} {e : List Expr} {t t' : TT} (h : PTs X e t) (i : ∀ σ H Q, t' σ H Q → t σ H Q) : PTs X e t' := ⟨fun pins s σ H Q I hq => h.run pins s σ H Q I (i σ H Q hq)⟩
theorem ts_nil {L : Ly} {X : Cx} : PTs X [] (tT L tvYes true) := PTs.imp pts_nil fun σ H Q h => by
  obtain ⟨env, B, F, m, b, env', he, k⟩ := h
  cases he
  exact k H F (out_bare m Go.refl)
/-- y = [..] -/
theorem s_setLc {L : Ly} {ok ok' : Okk} {X : Cx} {i : Nat} {y : Str} {py : Pos} {elt tg iter : Expr} {ifs : List Expr} {scope : Scope} {own : List (Str × Nat)} {pos spos : Pos} {l : List Nat} {put : PyData → Env → Rs Env} {s : Sv} {cond : Tv} {f : Ev} {qs qc qe : Bool} (hc : X.calm = true) (hN : X.N.Nodup) (hown : (own.map (·.2)).Nodup) (hl : ∀ j ∈ l, j ∈ own.map (·.2))
    (hy : X.N[i]? = some y) (hyl : X.env.scope.names.lookup y = some .local) (hsw : swapsWith (.ListComp elt [⟨tg, iter, ifs, 0⟩] scope pos) (some (.Name y py)) spos.line X.env = pure true)
    (hi : PI X tg iter (tI L s qs)) (bok : BlkOk X.N X.env.scope scope own)
    (hg : ∀ (s : Shared) (H : Hp) (C : Addr) (cl : List (Str × Addr)) (fp : List Addr), PG (X.blk s H scope (compEnvC scope cl C X.env) fp) tg (tG L ok l put))
    (ht : ∀ (s : Shared) (H : Hp) (C : Addr) (cl : List (Str × Addr)) (fp : List Addr), PTs (X.blk s H scope (compEnvC scope cl C X.env) fp) ifs (tT L cond qc))
    (he : ∀ (s : Shared) (H : Hp) (C : Addr) (cl : List (Str × Addr)) (fp : List Addr), PE (X.blk s H scope (compEnvC scope cl C X.env) fp) elt (tE L f qe)) (hs : ∀ x, foldedSetIterable iter X.env x = pure x) :
    PS X (.Assign [.Name y py] (.ListComp elt [⟨tg, iter, ifs, 0⟩] scope pos) spos) (tS L ok' (xSet ok' i (fComp (own.map (·.2)) put s cond f))) := PS.imp (ps_setLc hc hN hy hyl hsw hi bok hg ht he hs) fun D σ H h => by
  have q : tAsg (tE L (fComp (own.map (·.2)) put s cond f) (qs && qc && qe)) (gName i) D σ H := tSet_of (ok := ok') h
  exact tLc_of hown hl q
end Rf
end

section
set_option Elab.async false
set_option linter.all false
set_option maxRecDepth 10000
/-! Calls of the text's own defs: what is lent, what comes back. -/
namespace Rf
open PySem PySem.Spec PyProof.Rows L2

/-! ### lending -/
def lendE : List R → Env → Rs (List W × Env)
  | [], e => .ok ([], e)
  | .w x :: rs, e => do
    let (ws, e') ← lendE rs e
    pure (x :: ws, e')
  | .al i [] :: rs, e => match e[i]? with
    | some (some (.d x)) => do
      let (ws, e') ← lendE rs e
      pure (.d x :: ws, e')
    | some (some w) => do
      let (ws, e') ← lendE rs (e.set i none)
      pure (w :: ws, e')
    | _ => .fail
  | .al _ (_ :: _) :: _, _ => .fail
def giveE : List R → Env → Env → Rs Env
  | [], _, e => .ok e
  | .w _ :: rs, _ :: fs, e => giveE rs fs e
  | .al i [] :: rs, f :: fs, e => match e[i]? with
    | some (some (.d _)) => giveE rs fs e
    | some none => (match f with
      | some w => giveE rs fs (e.set i (some w))
      | none => giveE rs fs e)
    | _ => .fail
  | _, _, _ => .fail
/-- the parameters at the end, those that were stored to left out -/
def finE (ok : Okk) : Nat → Env → Env
  | 0, _ => []
  | n + 1, [] => none :: finE (fun i => ok (i + 1)) n []
  | n + 1, w :: env => (if ok 0 then none else w) :: finE (fun i => ok (i + 1)) n env
section
variable {L : Ly} {A A' : AS} {H H' : Hp} {σ : St}
theorem EnvR.append {e2 : Env} {σ2 : St} {F2 : List Addr} (r2 : EnvR L A H e2 σ2 F2) : ∀ {e : Env} {σ : St} {F : List Addr}, EnvR L A H e σ F → EnvR L A H (e ++ e2) (σ ++ σ2) (F ++ F2)
  | _, _, _, .nil => r2
  | _, _, _, .hol r => by simpa using EnvR.hol (EnvR.append r2 r)
  | _, _, _, .val x r => by simpa using EnvR.val x (EnvR.append r2 r)
theorem EnvR.holes : ∀ (n : Nat) (σ : St), σ.length = n → EnvR L A H (List.replicate n none) σ []
  | 0, [], _ => .nil
  | n + 1, x :: σ, h => by rw [List.replicate_succ]; exact .hol (EnvR.holes n σ (by simpa using h))
theorem lend_ok : ∀ {rs : List R} {vs : List V} {T : List Addr}, RRs L A H σ rs vs T → ∀ {env env' : Env} {F : List Addr} {ws : List W}, EnvR L A H env σ F → (F ++ T).Nodup → lendE rs env = .ok (ws, env') →
    ∃ Fr Fc, EnvR L A H env' σ Fr ∧ EnvR L A H (ws.map some) (vs.map some) Fc ∧ (Fr ++ Fc).Nodup ∧ ∀ a, a ∈ Fr ∨ a ∈ Fc → a ∈ F ∨ a ∈ T
  | _, _, _, .nil, env, env', F, ws, r, nd, e => by
    cases e
    exact ⟨F, [], r, .nil, by simpa using nd, fun a h => h.elim .inl fun h => by cases h⟩
  | _, _, _, .cons (rs := rs) (vs := vs) (v := v1) (T := T) (U := U) x t, env, env', F, ws, r, nd, e => by
    have nd2 := List.nodup_append.mp nd
    have nTU := List.nodup_append.mp nd2.2.1
    cases x with
    | @w x v T x' =>
      obtain ⟨⟨ws', e'⟩, h1, e⟩ := bind_eq (show (lendE rs env >>= fun p => match p with | (ws, e') => pure (x :: ws, e')) = .ok (ws, env') from e)
      cases e
      obtain ⟨Fr, Fc, q1, q2, q3, q4⟩ := lend_ok t r (List.nodup_append.mpr ⟨nd2.1, nTU.2.1, fun a ha b hb => nd2.2.2 a ha b (List.mem_append_right _ hb)⟩) h1
      have q3' := List.nodup_append.mp q3
      refine ⟨Fr, T ++ Fc, q1, by simpa using EnvR.val x' q2, ?_, fun a h => ?_⟩
      · refine List.nodup_append.mpr ⟨q3'.1, List.nodup_append.mpr ⟨nTU.1, q3'.2.1, fun a ha b hb => ?_⟩, fun a ha b hb => ?_⟩
        · rcases q4 b (.inr hb) with z | z
          · exact fun e => nd2.2.2 b z a (List.mem_append_left _ ha) e.symm
          · exact nTU.2.2 a ha b z
        · rcases List.mem_append.mp hb with hb | hb
          · rcases q4 a (.inl ha) with z | z
            · exact nd2.2.2 a z b (List.mem_append_left _ hb)
            · exact fun e => nTU.2.2 b hb a z e.symm
          · exact q3'.2.2 a ha b hb
      · rcases h with h | h
        · exact (q4 a (.inl h)).imp id (List.mem_append_right _)
        · rcases List.mem_append.mp h with h | h
          · exact .inr (List.mem_append_left _ h)
          · exact (q4 a (.inr h)).imp id (List.mem_append_right _)
    | @al i p v u h1 h2 =>
      cases h2 with
      | cons _ _ _ => cases e
      | nil =>
        unfold lendE at e
        split at e
        · rename_i x0 hw
          obtain ⟨⟨ws', e'⟩, h3, e⟩ := bind_eq e
          cases e
          obtain ⟨v', F1, G, F2, hF, hσ, y, _⟩ := r.get hw
          rw [h1] at hσ; cases hσ
          cases y with
          | d y =>
            obtain ⟨Fr, Fc, q1, q2, q3, q4⟩ := lend_ok t r (List.nodup_append.mpr ⟨nd2.1, nTU.2.1, fun a ha b hb => nd2.2.2 a ha b (List.mem_append_right _ hb)⟩) h3
            exact ⟨Fr, Fc, q1, EnvR.val (F := []) (.d y) q2, q3, fun a h => (q4 a h).imp id (List.mem_append_right _)⟩
        · rename_i w hnd hw
          obtain ⟨⟨ws', e'⟩, h3, e⟩ := bind_eq e
          cases e
          obtain ⟨v', F1, G, F2, hF, hσ, y, k⟩ := r.get hw
          rw [h1] at hσ; cases hσ
          obtain ⟨_, k2⟩ := k (fun _ => False) H A Stp.refl (fun _ h => h.elim) (fun b h => .inl h) fun _ _ h => h
          have r2 := k2 (some v1)
          rw [set_self h1] at r2
          have nd' : (F1 ++ F2 ++ U).Nodup ∧ (∀ a ∈ G, a ∉ F1 ++ F2 ∧ a ∉ U) ∧ G.Nodup := by
            rw [hF] at nd
            simp only [List.nil_append, List.nodup_append, List.mem_append] at nd ⊢
            obtain ⟨⟨⟨n1, n2, n3⟩, n4, n5⟩, n6, n7⟩ := nd
            refine ⟨⟨⟨n1, n4, fun a ha b hb => n5 a (.inl ha) b hb⟩, n6, fun a ha b hb => n7 a (ha.elim (fun z => .inl (.inl z)) .inr) b hb⟩, fun a ha => ⟨fun z => ?_, fun z => n7 a (.inl (.inr ha)) a z rfl⟩, n2⟩
            rcases z with z | z
            · exact n3 a z a ha rfl
            · exact n5 a (.inr ha) a z rfl
          obtain ⟨Fr, Fc, q1, q2, q3, q4⟩ := lend_ok t r2 nd'.1 h3
          have q3' := List.nodup_append.mp q3
          have out : ∀ a ∈ G, a ∉ Fr ∧ a ∉ Fc := fun a ha => ⟨fun z => (q4 a (.inl z)).elim (nd'.2.1 a ha).1 (nd'.2.1 a ha).2, fun z => (q4 a (.inr z)).elim (nd'.2.1 a ha).1 (nd'.2.1 a ha).2⟩
          refine ⟨Fr, G ++ Fc, q1, by simpa using EnvR.val y q2, ?_, fun a h => ?_⟩
          · refine List.nodup_append.mpr ⟨q3'.1, List.nodup_append.mpr ⟨nd'.2.2, q3'.2.1, fun a ha b hb e => (out a ha).2 (e ▸ hb)⟩, fun a ha b hb e => ?_⟩
            rcases List.mem_append.mp hb with hb | hb
            · exact (out b hb).1 (e ▸ ha)
            · exact q3'.2.2 a ha b hb e
          · have wide : ∀ a, a ∈ F1 ++ F2 → a ∈ F := fun a z => by rw [hF]; rcases List.mem_append.mp z with z | z <;> simp [z]
            rcases h with h | h
            · rcases q4 a (.inl h) with z | z
              · exact .inl (wide a z)
              · exact .inr (List.mem_append_right _ z)
            · rcases List.mem_append.mp h with h | h
              · exact .inl (by rw [hF]; simp [h])
              · rcases q4 a (.inr h) with z | z
                · exact .inl (wide a z)
                · exact .inr (List.mem_append_right _ z)
        · cases e
/-- what was lent comes back -/
theorem give_ok {A0 : AS} {H0 : Hp} : ∀ {rs : List R} {vs : List V} {T : List Addr}, RRs L A0 H0 σ rs vs T → ∀ {env env' fs : Env} {F Fc : List Addr}, EnvR L A H env σ F → EnvR L A H fs (vs.map some) Fc → (F ++ Fc).Nodup → giveE rs fs env = .ok env' →
    ∃ F2, EnvR L A H env' σ F2 ∧ F2.Nodup ∧ ∀ a, a ∈ F2 → a ∈ F ∨ a ∈ Fc
  | _, _, _, .nil, env, env', fs, F, Fc, r, rf, nd, e => by
    cases e
    exact ⟨F, r, (List.nodup_append.mp nd).1, fun a h => .inl h⟩
  | _, _, _, .cons (rs := rs) (vs := vs) x t, env, env', fs, F, Fc, r, rf, nd, e => by
    have nd' := List.nodup_append.mp nd
    cases x with
    | w x =>
      cases rf with
      | hol rf =>
        exact give_ok t r rf nd e
      | @val w' v' _ _ F1 G y rf =>
        obtain ⟨F2, q1, q2, q3⟩ := give_ok t r rf (List.nodup_append.mpr ⟨nd'.1, (List.nodup_append.mp nd'.2.1).2.1, fun a ha b hb => nd'.2.2 a ha b (List.mem_append_right _ hb)⟩) e
        exact ⟨F2, q1, q2, fun a h => (q3 a h).imp id (List.mem_append_right _)⟩
    | @al i p v u h1 h2 =>
      cases h2 with
      | cons _ _ _ => cases fs with
        | nil => cases e
        | cons f fs => cases f <;> cases e
      | nil =>
        cases rf with
        | hol rf =>
          unfold giveE at e
          split at e
          · exact give_ok t r rf nd e
          · exact give_ok t r rf nd e
          · cases e
        | @val w' v' _ _ F1 G y rf =>
          have keep : giveE rs _ env = .ok env' → ∃ F2, EnvR L A H env' σ F2 ∧ F2.Nodup ∧ ∀ a, a ∈ F2 → a ∈ F ∨ a ∈ F1 ++ G := fun e => by
            obtain ⟨F2, q1, q2, q3⟩ := give_ok t r rf (List.nodup_append.mpr ⟨nd'.1, (List.nodup_append.mp nd'.2.1).2.1, fun a ha b hb => nd'.2.2 a ha b (List.mem_append_right _ hb)⟩) e
            exact ⟨F2, q1, q2, fun a h => (q3 a h).imp id (List.mem_append_right _)⟩
          unfold giveE at e
          split at e
          · exact keep e
          · rename_i hn
            dsimp only at e
            obtain ⟨Fa, Fb, hF, q⟩ := r.put hn y
            rw [set_self h1] at q
            have n1 := List.nodup_append.mp nd'.2.1
            have nd2 : ((Fa ++ F1 ++ Fb) ++ G).Nodup := by
              rw [hF] at nd
              simp only [List.nodup_append, List.mem_append] at nd ⊢
              obtain ⟨⟨m1, m2, m3⟩, ⟨m4, m5, m6⟩, m7⟩ := nd
              refine ⟨⟨⟨m1, m4, fun a ha b hb => m7 a (.inl ha) b (.inl hb)⟩, m2, fun a ha b hb => ?_⟩, m5, fun a ha b hb => ?_⟩
              · rcases ha with ha | ha
                · exact m3 a ha b hb
                · exact fun e => m7 b (.inr hb) a (.inl ha) e.symm
              · rcases ha with (ha | ha) | ha
                · exact m7 a (.inl ha) b (.inr hb)
                · exact m6 a ha b hb
                · exact m7 a (.inr ha) b (.inr hb)
            obtain ⟨F2, q1, q2, q3⟩ := give_ok t q rf nd2 e
            refine ⟨F2, q1, q2, fun a h => ?_⟩
            rcases q3 a h with z | z
            · rw [hF]
              simp only [List.mem_append] at z ⊢
              rcases z with (z | z) | z
              · exact .inl (.inl z)
              · exact .inr (.inl z)
              · exact .inl (.inr z)
            · exact .inr (List.mem_append_right _ z)
          · cases e
/-- what is kept of a frame at its end: the parameters -/
theorem fin_ok : ∀ {vs : List V} {ok : Okk} {env : Env} {σ : St} {F : List Addr}, EnvR L A H env σ F → vs.length ≤ σ.length → (∀ i, i < vs.length → ok i = false → σ[i]? = (vs.map some)[i]?) →
    ∃ F2, EnvR L A H (finE ok vs.length env) (vs.map some) F2 ∧ F2.Sublist F
  | [], _, _, _, F, _, _, _ => ⟨[], .nil, List.nil_sublist _⟩
  | v :: vs, ok, _, _, _, .nil, h, _ => by simp at h
  | v :: vs, ok, _, _, F, .hol (env := env) (σ := σ) r, h, hv => by
    obtain ⟨F2, q, s⟩ := fin_ok (vs := vs) (ok := fun i => ok (i + 1)) r (by simpa using h) fun i hi ho => by
      have := hv (i + 1) (by simpa using hi) ho
      simpa using this
    refine ⟨F2, ?_, s⟩
    show EnvR L A H ((if ok 0 then none else none) :: _) (some v :: _) F2
    rw [ite_self]
    exact .hol q
  | v :: vs, ok, _, _, _, .val (w := w) (v := u) (env := env) (σ := σ) (F := F1) (G := G) y r, h, hv => by
    obtain ⟨F2, q, s⟩ := fin_ok (vs := vs) (ok := fun i => ok (i + 1)) r (by simpa using h) fun i hi ho => by
      have := hv (i + 1) (by simpa using hi) ho
      simpa using this
    cases h0 : ok 0 with
    | true =>
      refine ⟨F2, ?_, s.trans (List.sublist_append_right _ _)⟩
      show EnvR L A H ((if ok 0 = true then none else some w) :: _) (some v :: _) F2
      rw [h0, if_pos rfl]
      exact .hol q
    | false =>
      have e := hv 0 (by simp) h0
      have e' : u = v := by simpa using e
      subst e'
      refine ⟨F1 ++ F2, ?_, List.Sublist.append (List.Sublist.refl _) s⟩
      show EnvR L A H ((if ok 0 = true then none else some w) :: _) (some u :: _) _
      rw [h0, if_neg Bool.false_ne_true]
      exact .val y q
end

/-! ### what a def is: its slots, its body -/
structure Df where
  np : Nat
  slots : Nat
  ok : Okk
/-- a name that is given back is that of a parameter as it came -/
def R.kept (ok : Okk) : R → Bool
  | .al i _ => !ok i
  | _ => true
/-- a def called: the result, and the parameters at the end -/
abbrev Call := List W → Rs (R × Env)
def runDf (d : Df) (body : Ex) : Call := fun ws => do
  need (decide (ws.length = d.np))
  let (fl, env') ← body (ws.map some ++ List.replicate (d.slots - d.np) none)
  need (decide (d.np ≤ env'.length))
  match fl with
  | .nx => pure (.w (.d .none), finE d.ok d.np env')
  | .ret r => do
    need (R.kept d.ok r)
    pure (r, finE d.ok d.np env')
  | _ => .fail
/-- what a call's end is -/
structure OutC (L : Ly) (B : AS) (vs : List V) (H : Hp) (F : List Addr) (r : R) (fin : Env) (v : V) (H' : Hp) (F' T' : List Addr) : Prop where
  ms : MS L B fin (vs.map some) H' F' [r] [v] T'
  st : Stp (· ∈ F) H H'
  nw : ∀ a, a ∈ F' ∨ a ∈ T' → a ∈ F ∨ H a = none
/-- the promise of a def by what it computes -/
def spC (L : Ly) (np : Nat) (c : Call) : Sp := fun vs H Q _ => vs.length = np ∧ ∃ ws B F, MS L B (ws.map some) (vs.map some) H F [] [] [] ∧ ∃ r fin, c ws = .ok (r, fin) ∧ ∀ v H' F' T', OutC L B vs H F r fin v H' F' T' → Q v H'

/-- a def of the text keeps a promise, wherever it is called without a guard -/
structure FnG (P : Program) (w : World) (K : PySem.W.Frag) (mg : Str → Option Value) (base : Heap) (k : Nat) (f : Addr) (fd : FuncData) (ps : List Str) (sp : Sp) : Prop where
  len : ∀ vs H Q E, sp vs H Q E → vs.length = ps.length
  run : ∀ (A : Around) (outer : List PySem.Env) (s : Shared) (H : Hp) (args : Args) (us : List Value) (vs : List V) (Q : VK), Room k A → A.guards = some [] → Env0 P w K mg base A outer s H → BindsTo s fd args (ps.zip us) → Vals vs us → sp vs H Q E0 →
    codeAny (model P w) A (.call (.ref f) args) (CR CX0 outer P w H s Q E0) s

/-- by its body -/
theorem fnG_of {P : Program} {w : World} {K : PySem.W.Frag} {mg : Str → Option Value} {base : Heap} {k : Nat} {x qual : Str} {params : Arguments} {bd : List Stmt} {scope : Scope} {kws : List (Str × V)} {f : Addr} {fd : FuncData} {N ps : List Str} {sp : Sp} (G : FunD K x qual params bd scope [] kws f fd) (S : FnScope N ps scope)
    (len : ∀ vs H Q E, sp vs H Q E → vs.length = ps.length)
    (hbody : ∀ (X : Cx) (vs : List V) (H : Hp) (Q : VK), X.prog = P → X.w = w → X.K = K → X.mg = mg → X.base = base → X.N = N → X.env.scope = scope → X.calm = true → X.xe = (fun _ _ => False) → X.fn = (fun _ => true) → Room k X.A → X.A.guards = some [] → sp vs H Q E0 →
      ∃ t, PSs X bd t ∧ t { nx := fun _ H' => Q .non H', rt := Q } (L2.start N vs) H) : FnG P w K mg base (k + 1) f fd ps sp := by
  obtain ⟨oc, od, dV, kV, doc, pm, an, cdv, ct, osl, rfl, lk, hcd, _, _⟩ := G.ex
  refine ⟨len, fun A outer s H args us vs Q hr hg e0 hb r hsp => ?_⟩
  have hl := len _ _ _ _ hsp
  have hkeep : ∀ b o, base.get? b = some o → s.heap.get? b = some o := fun b o e => (e0.bs b o e).1
  have hlim : s.heap.NoLimit := e0.mod.nolimit.keeps hkeep
  have hin : K.In s.heap := e0.mod.kin.keeps hkeep
  refine codeAny_call_function hr.depth (hin _ _ lk) rfl S.co S.gen rfl (PySem.W.codeRec_of hin hcd) (hb _ _ _ _ ?_)
  refine wpAny_newFunctionEnv_cells S.kind (fun y hy => ?_) fun env he s1 z => ?_
  · rcases S.par y.1 (List.of_mem_zip (show (y.1, y.2) ∈ ps.zip us from hy)).1 with q | q
    · exact .inl q
    · exact .inr ⟨q, PySem.W.cellsFrom_some _ _ _ (.inl q)⟩
  subst he
  refine ⟨hlim.keeps z.toInCall.keep, codeAny_func ?_⟩
  have I := inv_start (CX := CX0) (E := E0) (qual := qual) (cd := cdv) (f := f) S hr.hd e0 hl r z
  obtain ⟨t, ht, hq⟩ := hbody ((cxOf CX0 P w K mg base N qual scope f cdv A outer s H E0).nox) vs H Q rfl rfl rfl rfl rfl rfl rfl rfl rfl rfl (hr.deeper _) hg hsp
  refine wpAny_mono ((PSs.nox ht).run [] s1 (L2.start N vs) H _ I hq) (fun fl s' hs => ?_) fun e s' hs => hs
  cases fl with
  | ret u =>
    obtain ⟨v, σ', H', J, rv, q⟩ := hs
    exact ⟨v, H', J.os, J.bare, J.base, J.hok, rv, q⟩
  | next =>
    obtain ⟨σ', H', J, q⟩ := hs
    exact ⟨.non, H', J.os, J.bare, J.base, J.hok, rfl, q⟩
  | brk =>
    obtain ⟨_, _, _, q⟩ := hs
    exact False.elim q
  | cont =>
    obtain ⟨_, _, _, q⟩ := hs
    exact False.elim q
/-- .. which is what it computes -/
theorem fnG_df {P : Program} {w : World} {K : PySem.W.Frag} {mg : Str → Option Value} {base : Heap} {k : Nat} {x qual : Str} {params : Arguments} {bd : List Stmt} {scope : Scope} {kws : List (Str × V)} {f : Addr} {fd : FuncData} {N ps : List Str} {L : Ly} {d : Df} {body : Ex} (G : FunD K x qual params bd scope [] kws f fd) (S : FnScope N ps scope) (hn : ps.length = d.np) (hN : N.length = d.slots) (hok : ∀ i, d.np ≤ i → d.ok i = true)
    (hbody : ∀ (X : Cx), X.prog = P → X.w = w → X.K = K → X.mg = mg → X.base = base → X.N = N → X.env.scope = scope → X.calm = true → X.xe = (fun _ _ => False) → X.fn = (fun _ => true) → Room k X.A → X.A.guards = some [] → PSs X bd (tS L d.ok body)) :
    FnG P w K mg base (k + 1) f fd ps (spC L d.np (runDf d body)) := by
  refine fnG_of G S (fun vs H Q E h => by rw [h.1, hn]) fun X vs H Q x1 x2 x3 x4 x5 x6 x7 x8 x9 x10 hr hg h => ⟨_, hbody X x1 x2 x3 x4 x5 x6 x7 x8 x9 x10 hr hg, ?_⟩
  obtain ⟨hl, ws, B, F, m, r, fin, hc, k⟩ := h
  obtain ⟨_, h1, hc⟩ := bind_eq hc
  obtain ⟨⟨fl, env'⟩, h2, hc⟩ := bind_eq hc
  have hw : ws.length = d.np := of_decide_eq_true (need_eq h1)
  have hle : d.np ≤ N.length := by
    have := congrArg List.length S.pre
    rw [List.length_take] at this
    omega
  have m0 : MS L B (ws.map some ++ List.replicate (d.slots - d.np) none) (L2.start N vs) H F [] [] [] := { m with
    env := by
      have q := EnvR.append (EnvR.holes (L := L) (A := Av B F []) (H := H) (d.slots - d.np) (List.replicate (N.length - vs.length) none) (by rw [List.length_replicate, hN, hl])) m.env
      rw [List.append_nil] at q
      exact q
    res := .nil }
  obtain ⟨_, h3, hc⟩ := bind_eq hc
  refine ⟨_, B, F, m0, fl, env', h2, fun σ' vs' H' F' T' o => ?_⟩
  have hσ : ∀ i, i < vs.length → d.ok i = false → σ'[i]? = (vs.map some)[i]? := fun i hi ho => by
    rw [o.kp i ho]
    unfold L2.start
    rw [List.getElem?_append_left (by simpa using hi)]
  have hlen : vs.length ≤ σ'.length := by
    have e1 := o.ms.env.length
    rw [← e1, hl]
    exact of_decide_eq_true (need_eq h3)
  obtain ⟨F2, q, sl⟩ := fin_ok (vs := vs) (ok := d.ok) o.ms.env hlen hσ
  rw [hl] at q
  have fin_ms : ∀ {r : R} {v : V} {U : List Addr}, fin = finE d.ok d.np env' → RR L (Av B F' T') H' (vs.map some) r v U → (∀ a ∈ U, a ∈ T') → U.Sublist T' → OutC L B vs H F r fin v H' F2 U := fun {r v U} e x hU sU => by
    have hsub : ∀ b, Av B F2 U b → Av B F' T' b := fun b z => by
      rcases z with z | z | z
      · exact .inl z
      · exact .inr (.inl (sl.subset z))
      · exact .inr (.inr (hU b z))
    subst e
    exact ⟨⟨q.sub hsub, by simpa using RRs.cons (x.sub hsub) RRs.nil, (List.Sublist.append sl sU).nodup o.ms.nd, fun a z => o.ms.dj a (z.imp (fun z => sl.subset z) (hU a)), o.ms.al⟩, o.st, fun a z => o.nw a (z.imp (fun z => sl.subset z) (hU a))⟩
  cases fl with
  | nx =>
    cases hc
    exact k .non H' F2 [] (fin_ms rfl (.w (.d .non)) (fun _ z => by cases z) (List.nil_sublist _))
  | brk => cases hc
  | cnt => cases hc
  | ret r' =>
    obtain ⟨_, h4, hc⟩ := bind_eq hc
    have h4 := need_eq h4
    cases hc
    have x := o.ms.res
    cases x with
    | @cons _ _ T U _ v x t =>
      cases t
      refine ⟨v, rfl, ?_⟩
      have x' : RR L (Av B F' (T ++ [])) H' (vs.map some) r v T := by
        cases x with
        | w x => exact .w x
        | @al i p v0 u e1 pq =>
          have hk : d.ok i = false := by
            have : (!d.ok i) = true := h4
            simpa using this
          have hi : i < vs.length := by
            by_cases hz : i < vs.length
            · exact hz
            · rw [hok i (by omega)] at hk; cases hk
          exact .al (by rw [← hσ i hi hk]; exact e1) pq
      exact k v H' F2 T (fin_ms rfl x' (fun a z => by simpa using z) (by simpa using List.Sublist.refl T))
end Rf
end

section
set_option Elab.async false
set_option linter.all false
set_option maxRecDepth 10000
/-! f(..) of a def of the text. -/
namespace Rf
open PySem PySem.Spec PyProof.Rows L2

/-- a def that may be called by its name -/
structure CalG (L : Ly) (P : Program) (w : World) (K : PySem.W.Frag) (mg : Str → Option Value) (base : Heap) (k : Nat) (x : Str) (np : Nat) (c : Call) : Prop where
  ex : ∃ (f : Addr) (fd : FuncData) (ps : List Str), FnG P w K mg base k f fd ps (spC L np c) ∧ mg x = some (.ref f) ∧ PySem.W.keepIn K (.ref f) = true ∧ Binds K fd ps [] ∧ ps.length = np

/-- what the name in a result of a callee is for the caller -/
def backR (rs : List R) (k : Nat) (p : List Str) : Rs R := match rs[k]? with
  | some (.al i []) => .ok (.al i p)
  | _ => .fail
def fDef (c : Call) (g : Es) : Ev := fun env => do
  let (rs, e1) ← g env
  let (ws, e2) ← lendE rs e1
  let (r, fs) ← c ws
  let e3 ← giveE rs fs e2
  match r with
  | .w x => pure (.w x, e3)
  | .al k p => do
    let r' ← backR rs k p
    pure (r', e3)
section
variable {L : Ly} {A : AS} {H : Hp} {σ : St}
theorem RRs.get_al : ∀ {rs : List R} {vs : List V} {T : List Addr} {k i : Nat}, RRs L A H σ rs vs T → rs[k]? = some (.al i []) → ∃ v, vs[k]? = some v ∧ σ[i]? = some (some v)
  | _, _, _, _, _, .nil, e => by simp at e
  | _, _, _, 0, i, .cons (r := r0) (v := v0) x t, e => by
    have e' : r0 = R.al i [] := by simpa using e
    subst e'
    cases x with
    | al h1 h2 =>
      cases h2
      exact ⟨v0, rfl, h1⟩
  | _, _, _, k + 1, i, .cons x t, e => by
    obtain ⟨v, h1, h2⟩ := RRs.get_al (k := k) t (by simpa using e)
    exact ⟨v, by simpa using h1, h2⟩
/-- what a def wants of the state, and what it leaves, seen by the caller -/
theorem call_out {B : AS} {e1 e2 fs : Env} {F T Fr Fc : List Addr} {rs : List R} {vs : List V} {q : Bool} {H0 H : Hp} {F0 : List Addr} {r r' : R} {e3 : Env} (m : MS L B e1 σ H F rs vs T) (g : Go q H0 F0 H F T) (hq : q = false)
    (hF : ∀ a, a ∈ Fr ∨ a ∈ Fc → a ∈ F ∨ a ∈ T) (nd : (Fr ++ Fc).Nodup) (hr : EnvR L (Av B F T) H e2 σ Fr) (hg : giveE rs fs e2 = .ok e3)
    (hb : (∃ x, r = .w x ∧ r' = .w x) ∨ ∃ k p, r = .al k p ∧ backR rs k p = .ok r') {v : V} {H' : Hp} {F' T' : List Addr}
    (o : OutC L (fun a => B a ∨ a ∈ Fr) vs H Fc r fs v H' F' T') : ∃ F2 T2, Out L B σ false H0 F0 [r'] e3 [v] H' F2 T2 := by
  have nd' := List.nodup_append.mp nd
  have nd2 := List.nodup_append.mp o.ms.nd
  have frT : ∀ a ∈ Fr, a ∉ F' ∧ a ∉ T' := fun a h => ⟨fun z => o.ms.dj a (.inl z) (.inr h), fun z => o.ms.dj a (.inr z) (.inr h)⟩
  have hr' : EnvR L (Av (fun a => B a ∨ a ∈ Fr) F' T') H' e2 σ Fr := hr.step o.st (fun b z => by
      rcases hF b (.inr z) with z | z
      · exact .inr (.inl z)
      · exact .inr (.inr z)) (fun b z => by
      have back : b ∈ Fc → Av B F T b ∨ H b = none := fun z => .inl ((hF b (.inr z)).elim (fun z => .inr (.inl z)) fun z => .inr (.inr z))
      rcases z with (z | z) | z | z
      · exact .inl (.inl z)
      · exact .inl ((hF b (.inl z)).elim (fun z => .inr (.inl z)) fun z => .inr (.inr z))
      · exact (o.nw b (.inl z)).elim back .inr
      · exact (o.nw b (.inr z)).elim back .inr) fun a h z => nd'.2.2 a h a z rfl
  obtain ⟨F2, q1, q2, q3⟩ := give_ok m.res hr' o.ms.env (List.nodup_append.mpr ⟨nd'.1, nd2.1, fun a ha b hb e => (frT a ha).1 (e ▸ hb)⟩) hg
  have hsub : ∀ b, Av B F2 T' b → Av (fun a => B a ∨ a ∈ Fr) F' T' b := fun b z => by
    rcases z with z | z | z
    · exact .inl (.inl z)
    · exact (q3 b z).elim (fun z => .inl (.inr z)) fun z => .inr (.inl z)
    · exact .inr (.inr z)
  have dj : ∀ a, a ∈ F2 ∨ a ∈ T' → ¬ B a := fun a z hB => by
    rcases z with z | z
    · rcases q3 a z with z | z
      · exact (hF a (.inl z)).elim (fun z => m.dj a (.inl z) hB) fun z => m.dj a (.inr z) hB
      · exact o.ms.dj a (.inl z) (.inl hB)
    · exact o.ms.dj a (.inr z) (.inl hB)
  have st : Stp (fun a => false = false ∧ a ∈ F0) H0 H' := by
    refine g.st.trans o.st (fun x z => ⟨rfl, z.2⟩) fun x z => ?_
    exact (g.nw x (hF x (.inr z))).imp (fun z => ⟨rfl, z⟩) id
  have nw : ∀ a, a ∈ F2 ∨ a ∈ T' → a ∈ F0 ∨ H0 a = none := fun a z => by
    have : a ∈ Fr ∨ a ∈ Fc ∨ H a = none := by
      rcases z with z | z
      · rcases q3 a z with z | z
        · exact .inl z
        · exact .inr (o.nw a (.inl z))
      · exact .inr (o.nw a (.inr z))
    rcases this with z | z | z
    · exact g.nw a (hF a (.inl z))
    · exact g.nw a (hF a (.inr z))
    · exact g.there z
  rcases hb with ⟨x, rfl, rfl⟩ | ⟨k, p, rfl, hb⟩
  · refine ⟨F2, T', ⟨⟨q1.sub hsub, ?_, ?_, dj, fun b z => o.ms.al b (.inl z)⟩, st, nw⟩⟩
    · have y := o.ms.res
      cases y with
      | @cons _ _ T1 U _ _ y t =>
        cases t
        cases y with
        | w y => simpa using RRs.cons (.w ((y).sub (A' := Av B F2 (T1 ++ [])) hsub)) RRs.nil
    · refine List.nodup_append.mpr ⟨q2, nd2.2.1, fun a ha b hb e => ?_⟩
      rcases q3 a ha with z | z
      · exact (frT a z).2 (e ▸ hb)
      · exact nd2.2.2 a z b hb e
  · have hT : RRs L (Av (fun a => B a ∨ a ∈ Fr) F' T') H' (vs.map some) [.al k p] [v] T' → T' = [] := fun y => by
      generalize hA : Av (fun a => B a ∨ a ∈ Fr) F' T' = AA at y
      cases y with
      | @cons _ _ T1 U _ _ y t =>
        cases t
        cases y with
        | al _ _ => rfl
    have hT := hT o.ms.res
    subst hT
    unfold backR at hb
    split at hb
    · rename_i i hk
      cases hb
      obtain ⟨u, h1, h2⟩ := m.res.get_al hk
      refine ⟨F2, [], ⟨⟨q1.sub hsub, ?_, by simpa using q2, dj, fun b z => o.ms.al b (.inl z)⟩, st, nw⟩⟩
      have y := o.ms.res1
      cases y with
        | @al k p v0 u0 h3 h4 =>
          have h3' : (vs.map some)[k]? = some (some v0) := h3
          rw [List.getElem?_map, h1] at h3'
          have e : u = v0 := by simpa using h3'
          subst e
          exact RRs.cons (T := []) (U := []) (.al h2 h4) .nil
    · cases hb
end
/-- the callee runs -/
theorem run_def {L : Ly} {X : Cx} {k np : Nat} {c : Call} {pins : List (Addr × Obj)} {σ : St} {H : Hp} {s : Shared} {Q : VK} {us : List Value} {vs : List V} {f : Addr} {fd : FuncData} {ps : List Str}
    (F : FnG X.prog X.w X.K X.mg X.base k f fd ps (spC L np c)) (hr : Room k X.A) (hg : X.A.guards = some []) (hb : Binds X.K fd ps []) (I : Inv X pins σ H s) (r : Vals vs us) (h : spC L np c vs H Q E0) :
    wpAny (model X.prog X.w) X.A (call (.ref f) us) (EP X pins σ Q) X.xe s := by
  have hl : us.length = ps.length := by rw [← r.length]; exact F.len _ _ _ _ h
  have bb := hb s us I.kIn (by simpa using hl)
  rw [List.append_nil] at bb
  refine wpAny_call (codeAny_mono (F.run X.A X.stack s H ⟨us, []⟩ us vs Q hr hg I.env0 bb r h) fun r s' hq => ?_)
  cases r with
  | error e => exact False.elim hq
  | ok fl =>
    cases fl with
    | ret u => exact I.after hq
    | next => exact False.elim hq
    | brk => exact False.elim hq
    | cont => exact False.elim hq
/-- the reading of a call gives the callee's promise -/
theorem fDef_of {L : Ly} {c : Call} {g : Es} {q : Bool} {np : Nat} {σ : St} {H : Hp} {Q : VK} (hn : ∀ ws r fs, c ws = .ok (r, fs) → ws.length = np) (h : tE L (fDef c g) false σ H Q) : tA L g q σ H fun vs H1 => spC L np c vs H1 Q E0 := by
  obtain ⟨env, B, F, m, r', e3, he, k⟩ := h
  obtain ⟨⟨rs, e1⟩, h1, he⟩ := bind_eq he
  obtain ⟨⟨ws, e2⟩, h2, he⟩ := bind_eq he
  obtain ⟨⟨r, fs⟩, h3, he⟩ := bind_eq he
  obtain ⟨e3', h4, he⟩ := bind_eq he
  refine tA_next (qq := false) m (Go.refl (q := true)) h1 (.inl rfl) (fun z => rfl) (fun _ => rfl) fun vs H1 F1 T1 m1 g1 => ?_
  obtain ⟨Fr, Fc, q1, q2, q3, q4⟩ := lend_ok (by simpa using m1.res) m1.env m1.nd h2
  have q3' := List.nodup_append.mp q3
  have hl : vs.length = np := by
    rw [← hn ws r fs h3]
    have := q2.length
    simpa using this.symm
  have al1 : ∀ b, (B b ∨ b ∈ Fr) → H1 b ≠ none := fun b z => z.elim (m1.al b) fun z => q1.there b z
  have msc : MS L (fun a => B a ∨ a ∈ Fr) (ws.map some) (vs.map some) H1 Fc [] [] [] := by
    refine ⟨q2.sub fun b z => ?_, .nil, by simpa using q3'.2.1, fun a z hB => ?_, al1⟩
    · rcases z with (z | z) | z | z
      · exact .inl z
      · exact (q4 b (.inl z)).elim (fun z => .inr (.inl z)) fun z => .inr (.inr z)
      · exact (q4 b (.inr z)).elim (fun z => .inr (.inl z)) fun z => .inr (.inr z)
      · cases z
    · rcases z with z | z
      · rcases hB with hB | hB
        · exact (q4 a (.inr z)).elim (fun z => m1.dj a (.inl z) hB) fun z => m1.dj a (.inr z) hB
        · exact q3'.2.2 a hB a z rfl
      · cases z
  refine ⟨hl, ws, _, Fc, msc, r, fs, h3, fun v H' F' T' o => ?_⟩
  have hb : (∃ x, r = .w x ∧ r' = .w x) ∨ ∃ k p, r = .al k p ∧ backR rs k p = .ok r' := by
    cases r with
    | w x => cases he; exact .inl ⟨x, rfl, rfl⟩
    | al k p =>
      obtain ⟨r2, h5, he⟩ := bind_eq he
      cases he
      exact .inr ⟨k, p, rfl, h5⟩
  have ee : e3' = e3 := by
    cases r with
    | w x => cases he; rfl
    | al k p => obtain ⟨r2, h5, he⟩ := bind_eq he; cases he; rfl
  subst ee
  obtain ⟨F2, T2, oo⟩ := call_out (by simpa using m1) g1 rfl q4 q3 q1 h4 hb o
  exact k v H' F2 T2 oo
theorem e_def {L : Ly} {X : Cx} {k np : Nat} {x : Str} {c : Call} {e : Expr} {es : List Expr} {p pos : Pos} {g : Es} {q : Bool} (C : CalG L X.prog X.w X.K X.mg X.base k x np c) (hr : Room k X.A) (hgu : X.A.guards = some []) (hg : Gl X x) (hn : ∀ ws r fs, c ws = .ok (r, fs) → ws.length = np)
    (hd : (x == ("__debug__" : Str)) = false) (hs : (e :: es).all noStar = true) (ha : PA X (e :: es) (tA L g q)) : PE X (.Call (.Name x p) (e :: es) [] pos) (tE L (fDef c g) false) := by
  obtain ⟨f, fd, ps, F, hm, hk, hb, hl⟩ := C.ex
  rw [List.all_cons, Bool.and_eq_true] at hs
  refine ⟨fun pins s σ H Q I h => ?_⟩
  refine wpAny_Call_Name_kw (ld_glob I hg hm ?_ hd)
  refine PySem.W.callWith_K (h₀ := X.base) I.ok.mod.kin hk (thn (ha.run pos pins s σ H _ I (fDef_of hn h)) fun us s1 ⟨vs, H1, I1, r, q⟩ => ⟨I1.kIn, ?_⟩) (star_cons hs.1) (star_none hs.2)
  exact run_def F hr hgu hb I1 r q
/-- f() -/
theorem e_def0 {L : Ly} {X : Cx} {k : Nat} {x : Str} {c : Call} {p pos : Pos} (C : CalG L X.prog X.w X.K X.mg X.base k x 0 c) (hr : Room k X.A) (hgu : X.A.guards = some []) (hg : Gl X x) (hn : ∀ ws r fs, c ws = .ok (r, fs) → ws.length = 0)
    (hd : (x == ("__debug__" : Str)) = false) : PE X (.Call (.Name x p) [] [] pos) (tE L (fDef c fNil) false) := by
  obtain ⟨f, fd, ps, F, hm, hk, hb, hl⟩ := C.ex
  refine ⟨fun pins s σ H Q I h => ?_⟩
  refine wpAny_Call_Name_kw (ld_glob I hg hm ?_ hd)
  obtain ⟨env, B, F0, m, r', e3, he, kk⟩ := h
  have h' := fDef_of (q := true) hn ⟨env, B, F0, m, r', e3, he, kk⟩
  obtain ⟨env2, B2, F2, m2, rs, e2, he2, k2⟩ := h'
  cases he2
  exact PySem.W.callWith_K0 I.kIn hk (run_def (us := []) F hr hgu hb I .nil (k2 [] H F2 [] (out_bare m2 Go.refl)))
end Rf
end

section
set_option Elab.async false
set_option linter.all false
set_option maxRecDepth 100000
set_option maxHeartbeats 4000000
/-! The product of data: ints, lists, tuples, texts by an int. -/
namespace Rf
open PySem PySem.Spec PyProof.Rows L2

/-- a tuple times one, an empty one times anything: the same -/
theorem tmul_same (l : Addr) (its : Array Value) (n : Nat) (dd : Option Addr) (sl : Array (Option Value)) (x : Int) (u : Tok) (h0 : (decide (x < -(2 ^ 63)) || decide (x ≥ 2 ^ 63)) = false) (h1 : (its.isEmpty || x == 1) = true) :
    Meets (Builtin.«tuple.__mul__» ⟨[.ref l, .int x u], []⟩) (fun _ R s => s.heap.get? l = some { cls := .type "tuple", dict := dd, data := .seq its n, slots := sl } ∧ R (.ok (.ret (Value.ref l))) s) :=
  .of_wp fun prog w A R s h => by
    obtain ⟨hp, g, d, tk, os⟩ := s
    obtain ⟨ht, h⟩ := h
    have f1 := AutoSeq1.idx_int
    wp_walk using wpAny_loadPart' ht
    repeat (first
      | (refine wpAny_ite_false (decide_eq_false (by rw [h0]; exact Bool.false_ne_true)) ?_; wp_walk using wpAny_loadPart' ht)
      | (refine wpAny_ite_true (decide_eq_true h1) ?_; wp_walk using wpAny_loadPart' ht))
    exact ⟨_, rfl, h⟩
/-- a tuple times nought or less -/
theorem tmul_none (l : Addr) (its : Array Value) (n : Nat) (dd : Option Addr) (sl : Array (Option Value)) (x : Int) (u : Tok) (h0 : (decide (x < -(2 ^ 63)) || decide (x ≥ 2 ^ 63)) = false) (h1 : (its.isEmpty || x == 1) = false) (h2 : (decide (x ≤ 0) || its.isEmpty) = true) :
    Meets (Builtin.«tuple.__mul__» ⟨[.ref l, .int x u], []⟩) (fun _ R s => s.heap.get? l = some { cls := .type "tuple", dict := dd, data := .seq its n, slots := sl } ∧
      R (.ok (.ret (Value.ref s.heap.objs.size))) { s with heap := s.heap.push { cls := Value.type "tuple", data := Data.seq #[] }, toks := s.toks }) :=
  .of_wp fun prog w A R s h => by
    obtain ⟨hp, g, d, tk, os⟩ := s
    obtain ⟨ht, h⟩ := h
    have f1 := AutoSeq1.idx_int
    wp_walk using wpAny_loadPart' ht
    repeat (first
      | (refine wpAny_ite_false (decide_eq_false (by rw [h0]; exact Bool.false_ne_true)) ?_; wp_walk using wpAny_loadPart' ht)
      | (refine wpAny_ite_false (decide_eq_false (by rw [h1]; exact Bool.false_ne_true)) ?_; wp_walk using wpAny_loadPart' ht)
      | (refine wpAny_ite_true (decide_eq_true h2) ?_; wp_walk using wpAny_loadPart' ht))
    exact ⟨_, rfl, h⟩
def repOk (n : Nat) (k : Int) : Bool := decide (-1000 ≤ k) && decide (k ≤ 1000) && decide (n ≤ 1000)
theorem fold_rep (z : Array Nat) : ∀ (k : Nat) (acc : Array Nat), ((List.replicate k z).foldl (· ++ ·) acc).toList = acc.toList ++ (List.replicate k z.toList).flatten
  | 0, acc => by simp
  | k + 1, acc => by
    rw [List.replicate_succ, List.foldl_cons, fold_rep z k, List.replicate_succ, List.flatten_cons, Array.toList_append, List.append_assoc]
/-- the items, k times -/
def repL {α : Type} (xs : List α) (k : Int) : List α := (List.replicate k.toNat xs).flatten
section
variable {X : Cx} {L : Ly}
theorem op_repT1 : OpR X (binaryOp .Mult) (fun x y H Q => ∃ l k xs, x = .ref l ∧ y = .int k ∧ SqT X.K H l xs ∧ repOk xs.length k = true ∧ (xs = [] ∨ k = 1 → Q (.ref l) H) ∧ (¬ (xs = [] ∨ k = 1) → ∀ p, H p = none → Q (.ref p) (upd H p (.tup (repL xs k))))) := by
  intro pins s σ H x y v u Q I rx ry h
  obtain ⟨l, k, xs, rfl, rfl, hT, hk, q1, q2⟩ := h
  unfold repOk at hk
  simp only [Bool.and_eq_true, decide_eq_true_eq] at hk
  obtain ⟨⟨ha, hb⟩, hz⟩ := hk
  have c0 : (decide (k < -(2 ^ 63)) || decide (k ≥ 2 ^ 63)) = false := by
    rw [decide_eq_false (by omega), decide_eq_false (by omega)]; rfl
  by_cases big : xs ≠ [] ∧ 2 ≤ k
  · exact op_repT pins s σ H _ _ v u Q I rx ry ⟨l, k, xs, rfl, rfl, hT, big.1, big.2, hb, hz, fun p hp => q2 (by rintro (z | z); exact big.1 z; omega) p hp⟩
  cases rx
  obtain ⟨t, rfl⟩ := ry
  obtain ⟨its, r, ⟨⟨cls, dd, data, sl⟩, ho, hc, n, hd⟩, hs⟩ := I.tuple hT
  simp only at hc hd
  subst hc hd
  have hle : its.length = xs.length := r.length.symm
  have he : its.toArray.isEmpty = xs.isEmpty := by
    cases its <;> cases xs <;> simp_all
  by_cases h1 : (its.toArray.isEmpty || k == 1) = true
  · have : xs = [] ∨ k = 1 := by
      rw [he] at h1
      simpa using h1
    refine wpAny_binaryOp_repeat_ref (T := "tuple") (U := "int") (by decide) ⟨_, ho, rfl⟩ (fun s' => typeIs_int s' k t) noFill_tuple_mul F.fills_int_mul F.slot_int_rmul repeat_tuple F.slot_int_index.lookup
      (call_meets F.slot_int_rmul (typeIs_int s k t) F.entry_int_rmul (F.args_int_rmul_2 _ _) (int_rmul_tuple k t l its.toArray n dd sl)
        ⟨ho, rfl, ⟨_, ho, rfl⟩, call_meets F.slot_tuple_mul ⟨_, ho, rfl⟩ F.entry_tuple_mul (F.args_tuple_mul_2 _ _) (tmul_same l its.toArray n dd sl k t c0 h1) ⟨ho, ?_⟩⟩)
    exact ⟨.ref l, H, I, rfl, q1 this⟩
  · have h1' : (its.toArray.isEmpty || k == 1) = false := by simpa using h1
    have hn : ¬ (xs = [] ∨ k = 1) := by
      rw [he] at h1'
      simpa using h1'
    have hx : xs ≠ [] := fun e => hn (.inl e)
    have hk0 : k ≤ 0 := by
      by_cases z : k ≤ 0
      · exact z
      · exact absurd ⟨hx, by have : k ≠ 1 := fun e => hn (.inr e); omega⟩ big
    have h2 : (decide (k ≤ 0) || its.toArray.isEmpty) = true := by rw [decide_eq_true hk0]; rfl
    refine wpAny_binaryOp_repeat_ref (T := "tuple") (U := "int") (by decide) ⟨_, ho, rfl⟩ (fun s' => typeIs_int s' k t) noFill_tuple_mul F.fills_int_mul F.slot_int_rmul repeat_tuple F.slot_int_index.lookup
      (call_meets F.slot_int_rmul (typeIs_int s k t) F.entry_int_rmul (F.args_int_rmul_2 _ _) (int_rmul_tuple k t l its.toArray n dd sl)
        ⟨ho, rfl, ⟨_, ho, rfl⟩, call_meets F.slot_tuple_mul ⟨_, ho, rfl⟩ F.entry_tuple_mul (F.args_tuple_mul_2 _ _) (tmul_none l its.toArray n dd sl k t c0 h1' h2) ⟨ho, ?_⟩⟩)
    have hf : H s.heap.objs.size = none := I.hok.fresh (Nat.le_refl _)
    have e0 : repL xs k = [] := by
      unfold repL
      rw [show k.toNat = 0 by omega]; rfl
    have q := q2 hn _ hf
    rw [e0] at q
    exact ⟨.ref s.heap.objs.size, upd H s.heap.objs.size (.tup []), I.laid (t' := s.toks) (fun b u e => Heap.get?_push_of_some _ e) (Nat.le_refl _) ⟨by simp, [], .nil, ⟨_, Heap.get?_push_size _ rfl, rfl, _, rfl⟩⟩, rfl, q⟩
theorem op_repStr : OpR X (binaryOp .Mult) (fun x y H Q => ∃ z k, x = .str z ∧ y = .int k ∧ repOk z.length k = true ∧ Q (.str ⟨(repL z.cps.toList k).toArray⟩) H) := by
  intro pins s σ H x y v u Q I rx ry h
  obtain ⟨z, k, rfl, rfl, hk, q⟩ := h
  obtain ⟨t, rfl⟩ := rx
  obtain ⟨t', rfl⟩ := ry
  unfold repOk at hk
  simp only [Bool.and_eq_true, decide_eq_true_eq] at hk
  obtain ⟨⟨ha, hb⟩, hz⟩ := hk
  have hl : z.length = z.cps.toList.length := by
    show z.cps.size = _
    simp
  refine P.mul_str (by rw [decide_eq_false (by omega), decide_eq_false (by omega)]; rfl) (fun h1 h2 => ?_) (fun h1 h2 => ?_) ?_
  · have h3 : 1 ≤ k := by omega
    have h4 : (2 : Int) ^ 63 - 1 ≥ 1000 * 1000000000000 := by decide
    have : (1000000000000 : Int) ≤ (2 ^ 63 - 1) / k := by
      rw [Int.le_ediv_iff_mul_le (by omega)]
      have : 1000000000000 * k ≤ 1000000000000 * 1000 := by omega
      omega
    omega
  · have : z.length * k.toNat ≤ 1000 * 1000 := Nat.mul_le_mul hz (by omega)
    unfold Builtin.Str.tooLong
    have hsl := sizeLine_eq
    first | exact decide_eq_false (by omega) | (simp only [gt_iff_lt, decide_eq_false_iff_not]; omega)
  · by_cases h1 : k < 1
    · rw [if_pos h1]
      have e0 : repL z.cps.toList k = [] := by
        unfold repL
        rw [show k.toNat = 0 by omega]; rfl
      rw [e0] at q
      refine ⟨by show 0 ≤ _; omega, ?_⟩
      exact ⟨.str Str.empty, H, I.tok _, ⟨_, rfl⟩, q⟩
    · rw [if_neg h1]
      split
      · rename_i h2
        have e0 : (⟨(repL z.cps.toList k).toArray⟩ : Str) = z := by
          rcases (Bool.or_eq_true _ _).mp h2 with h2 | h2
          · have e : k = 1 := by simpa using h2
            subst e
            unfold repL
            simp
          · have e : z.length = 0 := by simpa using h2
            have e2 : z.cps.toList = [] := List.eq_nil_of_length_eq_zero (by rw [← hl]; exact e)
            have e3 : z.cps = #[] := by
              have := congrArg List.toArray e2
              simpa using this
            unfold repL
            rw [e2]
            cases z
            simp_all
        rw [e0] at q
        exact ⟨.str z, H, I, ⟨_, rfl⟩, q⟩
      · have e0 : (⟨(repL z.cps.toList k).toArray⟩ : Str) = ⟨(List.replicate k.toNat z.cps).foldl (· ++ ·) #[]⟩ := by
          have e1 := fold_rep z.cps k.toNat #[]
          unfold repL
          congr 1
          apply Array.toList_inj.mp
          rw [e1]; simp
        rw [e0] at q
        refine ⟨?_, ?_⟩
        · rw [← e0]
          show ((repL z.cps.toList k).toArray).size ≤ sizeLine
          have hsl := sizeLine_eq
          unfold repL
          rw [List.size_toArray, PyProof.Rows.lm_len_rep_flat, ← hl]
          have : k.toNat * z.length ≤ 1000 * 1000 := Nat.mul_le_mul (by omega) hz
          omega
        · exact ⟨.str _, H, I.tok _, ⟨_, rfl⟩, q⟩
/-- a * b -/
def dMul : Op2
  | .int i, .int j => if decide (i.natAbs < 2 ^ 4096) && decide (j.natAbs < 2 ^ 4096) then some (.d (.int (i * j))) else none
  | .str x, .int k => if repOk x.length k then some (.d (.str ⟨(repL x.cps.toList k).toArray⟩)) else none
  | .tuple xs, .int k => if repOk xs.length k then some (.d (.tuple (repL xs k))) else none
  | .list xs, .int k => if repOk xs.length k then some (.ol (repL xs k)) else none
  | _, _ => none
theorem op_mulD (hK : L.K = X.K) : OpR X (binaryOp .Mult) (rD L dMul) := by
  intro pins s σ H x y v u Q I rx ry h
  obtain ⟨A, dx, dy, w, hx, hy, e, hA, k⟩ := h
  unfold dMul at e
  split at e
  · rename_i i j
    split at e
    · rename_i hz
      cases e
      obtain rfl := hx.int
      obtain rfl := hy.int
      rw [Bool.and_eq_true] at hz
      exact op_mulW pins s σ H _ _ v u Q I rx ry ⟨i, j, rfl, rfl, wide_mul (a := 4096) (b := 4096) (of_decide_eq_true hz.1) (of_decide_eq_true hz.2) (by decide) (by decide) (by decide), new_d k (.int _)⟩
    · cases e
  · rename_i z i
    split at e
    · rename_i hz
      cases e
      obtain rfl := hx.str
      obtain rfl := hy.int
      exact op_repStr pins s σ H _ _ v u Q I rx ry ⟨z, i, rfl, rfl, hz, new_d k (.str _)⟩
    · cases e
  · rename_i xs i
    split at e
    · rename_i hz
      cases e
      obtain ⟨a, vs, rfl, ha, ra⟩ := hx.tup
      obtain rfl := hy.int
      have l1 := ra.length
      refine op_repT1 pins s σ H _ _ v u Q I rx ry ⟨a, i, vs, rfl, rfl, by rw [← hK]; exact ha, by rw [l1]; exact hz, fun q => ?_, fun _ p hp => new_tup k (ra.rep _) hp⟩
      have e0 : repL xs i = xs := by
        rcases q with q | q
        · subst q; cases ra
          unfold repL; simp
        · subst q
          unfold repL; simp
      rw [e0] at k
      exact new_d k (.tup ha ra)
    · cases e
  · rename_i xs i
    split at e
    · rename_i hz
      cases e
      obtain ⟨a, vs, rfl, ha, ra⟩ := hx.list
      obtain rfl := hy.int
      have l1 := ra.length
      unfold repOk at hz
      simp only [Bool.and_eq_true, decide_eq_true_eq] at hz
      obtain ⟨⟨h1, h2⟩, h3⟩ := hz
      have hsl := sizeLine_eq
      have : xs.length * i.toNat ≤ 1000 * 1000 := Nat.mul_le_mul h3 (by omega)
      exact op_rep pins s σ H _ _ v u Q I rx ry ⟨a, i, vs, rfl, rfl, ha, by omega, by omega, by rw [l1]; omega, fun p hp => new_lst k (ra.rep _) hp⟩
    · cases e
  · cases e
end
end Rf
end

section
set_option Elab.async false
set_option linter.all false
set_option maxRecDepth 10000
/-! in, append, stores, enumerate, two names at once. -/
namespace Rf
open PySem PySem.Spec PyProof.Rows L2

/-! ### in -/
def inD (x : PyData) : PyData → Option Bool
  | .str z => match x with
    | .str y => match y.cps.toList with
      | [c] => some (decide (c ∈ z.cps.toList))
      | _ => none
    | _ => none
  | .list ds => if SeqAt.shaped x && SeqAt.shaped (.list ds) then some (ds.any fun z => PyData.eqv z x) else none
  | .tuple ds => if SeqAt.shaped x && SeqAt.shaped (.tuple ds) then some (ds.any fun z => PyData.eqv z x) else none
  | _ => none
def dIn : Op2 := fun x y => (inD x y).map fun b => .d (.bool b)
def dNotIn : Op2 := fun x y => (inD x y).map fun b => .d (.bool (!b))
section
variable {L : Ly} {X : Cx}
theorem one_sign {y : Str} {c : Nat} (h : y.cps.toList = [c]) : y = ⟨#[c]⟩ := by
  cases y with
  | mk a =>
    have : a = #[c] := by
      have := congrArg List.toArray h
      simpa using this
    rw [this]
theorem units_in {k : Nat} (hr : Room k X.A) : X.A.units + 1 + 64 < cLine := by have := hr.un; omega
theorem op_inDD {k : Nat} (hK : L.K = X.K) (hr : Room k X.A) : OpR X (compareOp .In) (rD L dIn) := by
  intro pins s σ H x y v u Q I rx ry h
  obtain ⟨A, dx, dy, w, hx, hy, e, hA, kk⟩ := h
  obtain ⟨b, e', rfl⟩ := Option.map_eq_some_iff.mp (show (inD dx dy).map _ = some w from e)
  clear e
  rename inD dx dy = some b => e
  unfold inD at e
  split at e
  · split at e
    · rename_i z x0 y
      split at e
      · rename_i c hc
        cases e
        obtain rfl := hx.str
        obtain rfl := hy.str
        exact op_in_sign pins s σ H _ _ v u Q I rx ry ⟨c, z, by rw [one_sign hc], rfl, new_d kk (.bl _)⟩
      · cases e
    · cases e
  · split at e
    · rename_i ds hs
      cases e
      rw [Bool.and_eq_true] at hs
      exact op_inD (by have := units_in hr; omega) pins s σ H _ _ v u Q I rx ry ⟨dx, ds, by rw [← hK]; exact hx.dp, by rw [← hK]; exact hy.dp, hs.1, hs.2, new_d kk (.bl _)⟩
    · cases e
  · split at e
    · rename_i ds hs
      cases e
      rw [Bool.and_eq_true] at hs
      obtain ⟨as, r1⟩ := Dp.reads I dx x v (by rw [← hK]; exact hx.dp) rx
      obtain ⟨bs, r2⟩ := Dp.reads I (.tuple ds) y u (by rw [← hK]; exact hy.dp) ry
      exact SeqAt.in_tuple_reads r2 r1 (SeqAt.canLay_of_shaped hs.2) (SeqAt.canLay_of_shaped hs.1) (room_in_shaped hs.1 (by have := units_in hr; omega)) ⟨.bl _, H, I, rfl, new_d kk (.bl _)⟩
    · cases e
  · cases e
theorem op_notInDD {k : Nat} (hK : L.K = X.K) (hr : Room k X.A) : OpR X (compareOp .NotIn) (rD L dNotIn) := by
  intro pins s σ H x y v u Q I rx ry h
  obtain ⟨A, dx, dy, w, hx, hy, e, hA, kk⟩ := h
  obtain ⟨b, e', rfl⟩ := Option.map_eq_some_iff.mp (show (inD dx dy).map _ = some w from e)
  clear e
  rename inD dx dy = some b => e
  unfold inD at e
  split at e
  · split at e
    · rename_i z x0 y
      split at e
      · rename_i c hc
        cases e
        obtain rfl := hx.str
        obtain rfl := hy.str
        exact op_notIn_sign pins s σ H _ _ v u Q I rx ry ⟨c, z, by rw [one_sign hc], rfl, new_d kk (.bl _)⟩
      · cases e
    · cases e
  · split at e
    · rename_i ds hs
      cases e
      rw [Bool.and_eq_true] at hs
      exact op_notInD (by have := units_in hr; omega) pins s σ H _ _ v u Q I rx ry ⟨dx, ds, by rw [← hK]; exact hx.dp, by rw [← hK]; exact hy.dp, hs.1, hs.2, new_d kk (.bl _)⟩
    · cases e
  · split at e
    · rename_i ds hs
      cases e
      rw [Bool.and_eq_true] at hs
      obtain ⟨as, r1⟩ := Dp.reads I dx x v (by rw [← hK]; exact hx.dp) rx
      obtain ⟨bs, r2⟩ := Dp.reads I (.tuple ds) y u (by rw [← hK]; exact hy.dp) ry
      exact SeqAt.notIn_tuple_reads r2 r1 (SeqAt.canLay_of_shaped hs.2) (SeqAt.canLay_of_shaped hs.1) (room_in_shaped hs.1 (by have := units_in hr; omega)) ⟨.bl _, H, I, rfl, new_d kk (.bl _)⟩
    · cases e
  · cases e
end

/-! ### a list of a slot is written -/
theorem MS.poke {L : Ly} {B : AS} {env : Env} {σ : St} {H : Hp} {F T : List Addr} {rs : List R} {vs : List V} {i : Nat} {xs : List PyData} (m : MS L B env σ H F rs vs T) (h0 : env[i]? = some (some (.ol xs))) :
    ∃ a vx, σ[i]? = some (some (.ref a)) ∧ H a = some (.lst vx) ∧ DqAll L.K (Av B F T) H vx xs ∧ a ∈ F ∧
      ∀ vx' xs', DqAll L.K (Av B F T) H vx' xs' → MS L B (env.set i (some (.ol xs'))) σ (upd H a (.lst vx')) F [] [] [] := by
  obtain ⟨v, F1, G, F2, hF, hσ, w, k⟩ := m.env.get h0
  cases w with
  | @ol a vx _ h1 h2 =>
    have ha : a ∈ F := by rw [hF]; simp
    refine ⟨a, vx, hσ, h1, h2, ha, fun vx' xs' d => ?_⟩
    have nd : (F1 ++ [a] ++ F2).Nodup := by
      have n := (List.nodup_append.mp m.nd).1
      rw [hF] at n; exact n
    have n1 := List.nodup_append.mp nd
    have n2 := List.nodup_append.mp n1.1
    have wr : Stp (· = a) H (upd H a (.lst vx')) := Stp.wrote rfl h1 (fun _ z => by cases z) (fun _ _ z => by cases z)
    have hsub : ∀ b, Av B F [] b → Av B F T b := fun b z => by
      rcases z with z | z | z
      · exact .inl z
      · exact .inr (.inl z)
      · cases z
    obtain ⟨k1, _⟩ := k (· = a) (upd H a (.lst vx')) (Av B F []) wr (fun b z => .inr (.inl (by rw [z]; exact ha))) (fun b z => .inl (hsub b z)) fun b z => by
      rintro rfl
      rcases z with z | z
      · exact n2.2.2 b z b (List.mem_singleton.mpr rfl) rfl
      · exact n1.2.2 b (by simp) b z rfl
    have en := k1 (.ol xs') (.ref a) [a] (.ol upd_same ((d.sub hsub).step wr (fun b z => .inr (.inl (by rw [z]; exact ha))) fun b z => .inl z))
    rw [set_self hσ] at en
    refine ⟨by rw [← hF] at en; exact en, .nil, by rw [List.append_nil, hF]; exact nd, fun b z => m.dj b (z.imp id fun z => by cases z), fun b z => ?_⟩
    by_cases e : b = a
    · rw [e, upd_same]; intro q; cases q
    · rw [upd_ne e]; exact m.al b z
/-- .. a step of the whole -/
theorem Go.wrote {q : Bool} {H0 H : Hp} {F0 F T : List Addr} {a : Addr} {vx vx' : List V} (g : Go q H0 F0 H F T) (hq : q = false) (ha : a ∈ F) (h : H a = some (.lst vx)) : Go q H0 F0 (upd H a (.lst vx')) F [] := by
  have wr : Stp (· = a) H (upd H a (.lst vx')) := Stp.wrote rfl h (fun _ z => by cases z) (fun _ _ z => by cases z)
  exact ⟨g.st.trans wr (fun x z => z) fun x z => by rw [z]; exact (g.nw a (.inl ha)).imp (fun z => ⟨hq, z⟩) id, fun b z => g.nw b (z.imp id fun z => by cases z)⟩
/-- the value of a place among results -/
theorem res_al {L : Ly} {A : AS} {H : Hp} {σ : St} {i : Nat} {v u : V} {T : List Addr} (x : RR L A H σ (.al i []) v T) (h : σ[i]? = some (some u)) : v = u := by
  cases x with
  | al h1 h2 =>
    cases h2
    rw [h] at h1
    cases h1; rfl
theorem res_d {L : Ly} {A : AS} {H : Hp} {σ : St} {d : PyData} {v : V} {T : List Addr} (x : RR L A H σ (.w (.d d)) v T) : Dq L.K A H v d := by
  cases x with
  | w x => cases x with
    | d x => exact x

def isOl (env : Env) (i : Nat) : Bool := match env[i]? with
  | some (some (.ol _)) => true
  | _ => false
theorem isOl_eq {env : Env} {i : Nat} (h : isOl env i = true) : ∃ xs, env[i]? = some (some (.ol xs)) := by
  unfold isOl at h
  split at h
  · exact ⟨_, by assumption⟩
  · cases h
theorem MS.isL {L : Ly} {X : Cx} {B : AS} {env : Env} {σ : St} {H : Hp} {F T : List Addr} {v : V} {i : Nat} (m : MS L B env σ H F [.al i []] [v] T) (h : isOl env i = true) : tyV X.K "list" v H := by
  obtain ⟨xs, h0⟩ := isOl_eq h
  obtain ⟨a, vx, hσ, ha, _⟩ := m.poke h0
  have e := res_al m.res1 hσ
  subst e
  exact .inl ⟨rfl, vx, SqL.of ha⟩

/-! ### append -/
def fApp (fo f : Ev) : Ev := fun env => do
  let (ro, e1) ← fo env
  let (r, e2) ← fFrz f e1
  match ro, r with
  | .al i [], .w (.d x) => match e2[i]? with
    | some (some (.ol xs)) => do
      need (isOl e1 i && decide (xs.length < SZ))
      pure (.w (.d .none), e2.set i (some (.ol (xs ++ [x]))))
    | _ => .fail
  | _, _ => .fail
theorem app_of {L : Ly} {X : Cx} {fo f : Ev} {qo q : Bool} {σ : St} {H : Hp} {Q : VK} (h : tE L (fApp fo f) false σ H Q) : tBM X.K "list" rAppend (tE L fo qo) (tA L (fCons (fFrz f) fNil true) q) σ H Q := by
  obtain ⟨env, B, F, m, r', e3, he, k⟩ := h
  obtain ⟨⟨ro, e1⟩, h1, he⟩ := bind_eq he
  obtain ⟨⟨r, e2⟩, h2, he⟩ := bind_eq he
  dsimp only at he
  split at he
  · rename_i i x _
    split at he
    · rename_i xs hi
      obtain ⟨_, h3, he⟩ := bind_eq he
      have h3 := need_eq h3
      rw [Bool.and_eq_true] at h3
      cases he
      refine tE_next (qq := false) m (Go.refl (q := true)) h1 (.inl rfl) (fun z => by cases z) (fun z => rfl) fun v1 H1 F1 T1 m1 g1 => ?_
      have h2' : fCons (fFrz f) fNil true e1 = .ok ([.w (.d x)], e2) := by
        unfold fCons
        rw [h2]; rfl
      have x1 := m1.res1
      have key : tA L (fCons (fFrz f) fNil true) q σ H1 fun xs_1 H2 => rAppend v1 xs_1 H2 Q := by
        refine tA_next (qq := false) m1 g1 h2' (.inl rfl) (fun _ => rfl) (fun _ => rfl) fun vs H2 F2 T2 m2 g2 => ?_
        obtain ⟨a, vx, hσ, ha, dx, hF, kk⟩ := m2.poke hi
        have e1 := res_al x1 hσ
        have rr := m2.res
        have : ∃ v2, vs = [v2] ∧ Dq L.K (Av B F2 T2) H2 v2 x := by
          generalize hAA : Av B F2 T2 = AA at rr
          cases rr with
          | cons y t =>
            generalize hv : vs = vv at t
            cases t with
            | cons y2 t2 =>
              cases t2
              exact ⟨_, rfl, res_d y2⟩
        obtain ⟨v2, rfl, d2⟩ := this
        refine ⟨a, vx, v2, e1, rfl, ha, by rw [dx.length]; rw [← SZ_eq]; exact of_decide_eq_true h3.2, ?_⟩
        have m3 := kk (vx ++ [v2]) (xs ++ [x]) (dx.append (.cons d2 .nil))
        have g3 := g2.wrote (vx' := vx ++ [v2]) rfl hF ha
        exact k .non _ F2 [] ⟨{ m3 with res := .cons (T := []) (U := []) (.w (.d .non)) .nil }, g3.st, g3.nw⟩
      exact ⟨m1.isL h3.1, key⟩
    · cases he
  · cases he
end Rf
end

section
set_option Elab.async false
set_option linter.all false
set_option maxRecDepth 10000
namespace Rf
open PySem PySem.Spec PyProof.Rows L2

def notCall : Expr → Bool
  | .Call .. => false
  | _ => true
theorem base_of {o : Expr} {name : Str} {env : PySem.Env} (h : notCall o = true) : attributeBase o name env (eval o env) = eval o env := by
  cases o <;> first | rfl | cases h
def notSlice : Expr → Bool
  | .Slice .. => false
  | .Tuple .. => false
  | _ => true
theorem ix_of {i : Expr} (h : notSlice i = true) : PlainIx i := by
  cases i <;> first | exact fun _ _ => rfl | cases h
theorem e_app {L : Ly} {X : Cx} {o e : Expr} {apos cpos : Pos} {fo f : Ev} {qo q : Bool} (hc : notCall o = true) (hs : noStar e = true) (hl : (apos.endLine == cpos.line) = true) (ho : PE X o (tE L fo qo)) (h : PE X e (tE L f q)) :
    PE X (.Call (.Attribute o "append" apos) [e] [] cpos) (tE L (fApp fo f) false) :=
  PE.imp (pe_bm PySem.F.plainAttrs_list PySem.F.slot_list_append PySem.F.type_list_append mt_append ho (a_cons hs (e_frz h) a_nil) (base_of hc) (by
      rw [star_cons hs]; rfl) hl (star_cons hs) (star_none rfl)) fun σ H Q hh => app_of hh
/-- o[i] = e -/
def xStore (fo fi fe : Ev) (qi : Bool) : Ex := fun env => do
  let (rv, e1) ← fFrz fe env
  let (ro, e2) ← fo e1
  let (ri, e3) ← fi e2
  match rv, ro, ri with
  | .w (.d x), .al i [], .w (.d (.int k)) => match e3[i]? with
    | some (some (.ol xs)) => do
      let j ← Rs.of (ixN xs.length k)
      pure (.nx, e3.set i (some (.ol (xs.set j x))))
    | _ => .fail
  | _, _, _ => .fail
theorem plain_d {x : PyData} : (R.w (.d x)).plain = true := rfl
theorem s_store {L : Ly} {ok : Okk} {X : Cx} {o i e : Expr} {p pos : Pos} {fo fi fe : Ev} {qo qi qe : Bool} (ho : PE X o (tE L fo qo)) (hi : PE X i (tE L fi qi)) (he : PE X e (tE L fe qe))
    (hns : notSlice i = true) (hs : swapsWithSole [.Subscript o i p] e pos.line X.env = pure false) (hw : swappedStores [.Subscript o i p] e X.env = pure none) :
    PS X (.Assign [.Subscript o i p] e pos) (tS L ok (xStore fo fi fe qi)) := by
  have ha : ∀ v, assign (.Subscript o i p) X.env v = (do
      let ov ← holding [v] (eval o X.env)
      let iv ← holding [v, ov] (eval i X.env)
      standAt p
      holding [v, ov, iv] (setItem ov iv v)
      release [v, ov, iv] []) := by
    cases i <;> first | exact fun _ => rfl | cases hns
  refine PS.imp (ps_asg (e_frz he) (pg_sub ho hi set_list ha) hs hw) fun D σ H h => ?_
  obtain ⟨env, B, F, m, fl, env', he, k⟩ := h
  obtain ⟨⟨rv, e1⟩, h1, he⟩ := bind_eq he
  obtain ⟨⟨ro, e2⟩, h2, he⟩ := bind_eq he
  obtain ⟨⟨ri, e3⟩, h3, he⟩ := bind_eq he
  dsimp only at he
  split at he
  · rename_i x i j _ _
    split at he
    · rename_i xs hx
      obtain ⟨n, h4, he⟩ := bind_eq he
      cases he
      refine tE_next (qq := false) m (Go.refl (q := true)) h1 (.inl rfl) (fun z => by cases z) (fun z => rfl) fun v1 H1 F1 T1 m1 g1 => ?_
      refine tE_next (qq := false) m1 g1 h2 (.inl rfl) (fun _ => rfl) (fun _ => rfl) fun v2 H2 F2 T2 m2 g2 => ?_
      refine tE_next (qq := false) m2 g2 h3 (.inl rfl) (fun _ => rfl) (fun _ => rfl) fun v3 H3 F3 T3 m3 g3 => ?_
      obtain ⟨Ta, Tb, Tc, _, x1, x2, x3⟩ := MS.res3 m3
      obtain ⟨a, vx, hσ, hA, dx, hF, kk⟩ := m3.poke hx
      have e1 := res_al x2 hσ
      have d1 := res_d x1
      have d3 := res_d x3
      cases d3
      subst e1
      refine ⟨a, vx, j, n, rfl, rfl, hA, by rw [dx.length]; exact of_eq h4, ?_⟩
      have m4 := kk (vx.set n v1) (xs.set n x) (dx.set d1 n)
      have g4 := g3.wrote (vx' := vx.set n v1) rfl hF hA
      exact k σ [] _ F3 [] ⟨Kp.refl, m4, g4.st.mono fun x h => .inl h.2, g4.nw⟩
    · cases he
  · cases he

/-! ### two names, three at once -/
def fTk (f : Ev) : Ev := fun env => do
  let (r, e1) ← f env
  let (x, e2) ← takeR r e1
  pure (.w x, e2)
theorem e_tk {L : Ly} {X : Cx} {e : Expr} {f : Ev} {q : Bool} (h : PE X e (tE L f q)) : PE X e (tE L (fTk f) q) := PE.imp h fun σ H Q hh => by
  obtain ⟨env, B, F, m, r, env', he, k⟩ := hh
  obtain ⟨⟨r1, e1⟩, h1, he⟩ := bind_eq he
  obtain ⟨⟨x, e2⟩, h2, he⟩ := bind_eq he
  cases he
  refine ⟨env, B, F, m, r1, e1, h1, fun v H' F' T' o => ?_⟩
  obtain ⟨F2, T2, o2⟩ := o.take h2
  exact k v H' F2 T2 o2
/-- results to slots, one after another -/
def setSlots (ok : Okk) : List Nat → List R → Env → Rs Env
  | [], [], env => .ok env
  | i :: is, .w x :: rs, env => do
    let e1 ← setSlot ok i x env
    setSlots ok is rs e1
  | _, _, _ => .fail
def xPars (ok : Okk) (is : List Nat) (g : Es) : Ex := fun env => do
  let (rs, e1) ← g env
  let e2 ← setSlots ok is rs e1
  pure (.nx, e2)
theorem slots_w {ok : Okk} : ∀ {is : List Nat} {rs : List R} {env env' : Env}, setSlots ok is rs env = .ok env' → ∀ r ∈ rs, ∃ x, r = .w x
  | [], [], _, _, _, _, h => by cases h
  | [], _ :: _, _, _, e, _, _ => by simp [setSlots] at e
  | _ :: _, [], _, _, e, _, _ => by simp [setSlots] at e
  | _ :: _, .al _ _ :: _, _, _, e, _, _ => by simp [setSlots] at e
  | i :: is, .w x :: rs, env, env', e, r, h => by
    have e' : (setSlot ok i x env >>= setSlots ok is rs) = .ok env' := by simpa [setSlots] using e
    obtain ⟨e1, h1, h2⟩ := bind_eq e'
    rcases List.mem_cons.mp h with h | h
    · exact ⟨x, h⟩
    · exact slots_w h2 r h
theorem RRs.anySt {L : Ly} {A A' : AS} {H : Hp} {σ σ' : St} (ha : ∀ b, A' b → A b) : ∀ {rs : List R} {vs : List V} {T : List Addr}, RRs L A H σ rs vs T → (∀ r ∈ rs, ∃ x, r = .w x) → RRs L A' H σ' rs vs T
  | _, _, _, .nil, _ => .nil
  | _, _, _, .cons x t, h => by
    refine .cons ?_ (RRs.anySt ha t fun r hr => h r (List.mem_cons_of_mem _ hr))
    cases x with
    | w x => exact .w (x.sub ha)
    | al _ _ => obtain ⟨y, hy⟩ := h _ List.mem_cons_self; cases hy
def setsV : List Nat → List V → St → St
  | i :: is, v :: vs, σ => setsV is vs (σ.set i (some v))
  | _, _, σ => σ
theorem MS.assigns {L : Ly} {ok : Okk} {B : AS} {H : Hp} : ∀ {is : List Nat} {rs : List R} {vs : List V} {env env' : Env} {σ : St} {F T : List Addr}, MS L B env σ H F rs vs T → setSlots ok is rs env = .ok env' →
    vs.length = is.length ∧ Kp ok σ (setsV is vs σ) ∧ ∃ F', MS L B env' (setsV is vs σ) H F' [] [] [] ∧ ∀ a, a ∈ F' → a ∈ F ∨ a ∈ T
  | [], [], vs, env, env', σ, F, T, m, e => by
    have e' : env = env' := by simpa [setSlots] using e
    subst e'
    have h := m.res
    generalize hA : Av B F T = AA at h
    cases h
    exact ⟨rfl, Kp.refl, F, m.bare, fun a h => .inl h⟩
  | [], _ :: _, _, _, _, _, _, _, _, e => by simp [setSlots] at e
  | _ :: _, [], _, _, _, _, _, _, _, e => by simp [setSlots] at e
  | _ :: _, .al _ _ :: _, _, _, _, _, _, _, _, e => by simp [setSlots] at e
  | i :: is, .w x :: rs, vs, env, env', σ, F, T, m, e => by
    have e' : (setSlot ok i x env >>= setSlots ok is rs) = .ok env' := by simpa [setSlots] using e
    obtain ⟨e1, h1, h2⟩ := bind_eq e'
    have h := m.res
    generalize hA : Av B F T = AA at h
    cases h with
    | @cons _ vs Tx Ty _ v y t =>
      subst hA
      have nd := List.nodup_append.mp m.nd
      have nT := List.nodup_append.mp nd.2.1
      have m1 : MS L (fun a => B a ∨ a ∈ Ty) env σ H F [.w x] [v] Tx := by
        have sub : ∀ b, Av (fun a => B a ∨ a ∈ Ty) F Tx b → Av B F (Tx ++ Ty) b := fun b z => by
          rcases z with (z | z) | z | z
          · exact .inl z
          · exact .inr (.inr (List.mem_append_right _ z))
          · exact .inr (.inl z)
          · exact .inr (.inr (List.mem_append_left _ z))
        refine ⟨m.env.sub sub, by simpa using RRs.cons (y.sub sub) RRs.nil, List.nodup_append.mpr ⟨nd.1, nT.1, fun a ha b hb => nd.2.2 a ha b (List.mem_append_left _ hb)⟩, fun a z hB => ?_, fun b z => ?_⟩
        · rcases hB with hB | hB
          · exact m.dj a (z.imp id (List.mem_append_left _)) hB
          · rcases z with z | z
            · exact nd.2.2 a z a (List.mem_append_right _ hB) rfl
            · exact nT.2.2 a z a hB rfl
        · rcases z with z | z
          · exact m.al b z
          · exact t.there b z
      obtain ⟨hok, F1, m2, hF1⟩ := m1.assign h1
      have inT : ∀ a, a ∈ F1 → a ∉ Ty := fun a ha hb => m2.dj a (.inl ha) (.inr hb)
      have m3 : MS L B e1 (σ.set i (some v)) H F1 rs vs Ty := by
        refine ⟨m2.env.sub fun b z => ?_, ?_, List.nodup_append.mpr ⟨by simpa using m2.nd, nT.2.1, fun a ha b hb e => inT a ha (e ▸ hb)⟩, fun a z hB => ?_, fun b z => m.al b z⟩
        · rcases z with z | z | z
          · exact .inl (.inl z)
          · exact .inr (.inl z)
          · exact .inl (.inr z)
        · refine RRs.anySt (fun b z => ?_) t (slots_w h2)
          rcases z with z | z | z
          · exact .inl z
          · rcases hF1 b z with z | z
            · exact .inr (.inl z)
            · exact .inr (.inr (List.mem_append_left _ z))
          · exact .inr (.inr (List.mem_append_right _ z))
        · rcases z with z | z
          · exact m2.dj a (.inl z) (.inl hB)
          · exact m.dj a (.inr (List.mem_append_right _ z)) hB
      obtain ⟨q1, q2, F2, m4, hF2⟩ := MS.assigns (is := is) m3 h2
      refine ⟨by simp [q1], (Kp.set hok).trans q2, F2, m4, fun a z => ?_⟩
      rcases hF2 a z with z | z
      · exact (hF1 a z).imp id (List.mem_append_left _)
      · exact .inr (List.mem_append_right _ z)

theorem par_end {L : Ly} {ok : Okk} {is : List Nat} {g : Es} {q : Bool} {D : Ends} {σ : St} {H : Hp} (h : tS L ok (xPars ok is g) D σ H) : tA L g q σ H fun vs H1 => vs.length = is.length ∧ D.nx (setsV is vs σ) H1 := by
  obtain ⟨env, B, F, m, fl, env', he, k⟩ := h
  obtain ⟨⟨rs, e1⟩, h1, he⟩ := bind_eq he
  obtain ⟨e2, h2, he⟩ := bind_eq he
  cases he
  refine ⟨env, B, F, m, rs, e1, h1, fun vs H' F' T' o => ?_⟩
  obtain ⟨l, kp, F2, m2, hF⟩ := o.ms.assigns h2
  exact ⟨l, k _ [] H' F2 [] ⟨kp, m2, o.st.mono fun x z => .inl z.2, fun a z => o.nw a (z.elim (hF a) fun z => by cases z)⟩⟩
theorem s_par {L : Ly} {ok : Okk} {X : Cx} {i j : Nat} {x y : Str} {a b : Expr} {px py pt pos : Pos} {kt k2 : Nat} {pt2 : Pos} {g : Es} {q : Bool} (hc : X.calm = true) (hN : X.N.Nodup) (hi : X.N[i]? = some x) (hj : X.N[j]? = some y) (hij : i ≠ j)
    (hx : X.env.scope.names.lookup x = some .local) (hy : X.env.scope.names.lookup y = some .local) (ha : PA X [a, b] (tA L g q))
    (hw : swappedStores [.Tuple [.Name x px, .Name y py] kt pt] (.Tuple [a, b] k2 pt2) X.env = pure (some [x, y])) :
    PS X (.Assign [.Tuple [.Name x px, .Name y py] kt pt] (.Tuple [a, b] k2 pt2) pos) (tS L ok (xPars ok [i, j] g)) := PS.imp (ps_par hc hN hi hj hij hx hy ha hw) fun D σ H h => by
  obtain ⟨env, B, F, m, rs, e1, h1, kk⟩ := par_end (q := q) h
  refine ⟨env, B, F, m, rs, e1, h1, fun vs H' F' T' o => ?_⟩
  obtain ⟨l, d⟩ := kk vs H' F' T' o
  match vs, l with
  | [v, w], _ => exact ⟨v, w, rfl, d⟩
theorem s_par3 {L : Ly} {ok : Okk} {X : Cx} {i j l : Nat} {x y z : Str} {a b c : Expr} {px py pz pt pos : Pos} {kt k2 : Nat} {pt2 : Pos} {g : Es} {q : Bool} (hc : X.calm = true) (hN : X.N.Nodup) (hi : X.N[i]? = some x) (hj : X.N[j]? = some y) (hl : X.N[l]? = some z) (hij : i ≠ j) (hil : i ≠ l) (hjl : j ≠ l)
    (hx : X.env.scope.names.lookup x = some .local) (hy : X.env.scope.names.lookup y = some .local) (hz : X.env.scope.names.lookup z = some .local) (ha : PA X [a, b, c] (tA L g q))
    (hw : swappedStores [.Tuple [.Name x px, .Name y py, .Name z pz] kt pt] (.Tuple [a, b, c] k2 pt2) X.env = pure (some [x, y, z])) :
    PS X (.Assign [.Tuple [.Name x px, .Name y py, .Name z pz] kt pt] (.Tuple [a, b, c] k2 pt2) pos) (tS L ok (xPars ok [i, j, l] g)) := PS.imp (ps_par3 hc hN hi hj hl hij hil hjl hx hy hz ha hw) fun D σ H h => by
  obtain ⟨env, B, F, m, rs, e1, h1, kk⟩ := par_end (q := q) h
  refine ⟨env, B, F, m, rs, e1, h1, fun vs H' F' T' o => ?_⟩
  obtain ⟨l, d⟩ := kk vs H' F' T' o
  match vs, l with
  | [u, v, w], _ => exact ⟨u, v, w, rfl, d⟩

/-! ### enumerate -/
def enumD (xs : List PyData) : List PyData := xs.mapIdx fun (i : Nat) d => .tuple [.int (i : Int), d]
def vEnum (f : Ev) : Sv := fun env => do
  let (r, e1) ← fFrz f env
  match r with
  | .w (.d (.list xs)) => pure (([.list xs], enumD xs), e1)
  | _ => .fail
theorem it_enum {L : Ly} {X : Cx} {a : Addr} {xs : List PyData} (hK : L.K = X.K) : ItOk L (Ite X.K a) [.list xs] [.ref a] (enumD xs) where
  go := fun i H A h hi => by
    cases h with
    | cons h _ =>
      cases h with
      | @lst _ vs _ e n r =>
        obtain ⟨v, hv, _⟩ := r.get (List.getElem?_eq_getElem (by simpa [enumD] using hi))
        exact ⟨vs, v, SqL.of e, hv⟩
  stop := fun i H A h hi => by
    cases h with
    | cons h _ =>
      cases h with
      | @lst _ vs _ e n r => exact ⟨vs, SqL.of e, by rw [r.length]; simpa [enumD] using hi⟩
  yld := fun i H A x H' d h hd hy => by
    cases h with
    | cons h _ =>
      cases h with
      | @lst _ vs _ e n r =>
        obtain ⟨T, u, rfl, hT, rfl, hy⟩ := hy
        unfold enumD at hd
        rw [List.getElem?_mapIdx] at hd
        obtain ⟨d0, hd0, rfl⟩ := Option.map_eq_some_iff.mp hd
        obtain ⟨v, hv, q⟩ := r.get hd0
        have := hy vs (SqL.of e)
        rw [hv] at this; cases this
        have sm : Same H (upd H T (.tup [.int (i : Nat), u])) := same_new hT
        exact ⟨sm, .tup (SqT.of upd_same) (.cons (.int _) (.cons (q.step (stp_of sm) (fun _ z => z.elim) fun b z => .inl z) .nil))⟩
theorem i_enum {L : Ly} {X : Cx} {elts : List Expr} {kk : Nat} {tpos p pos : Pos} {e : Expr} {f : Ev} {q : Bool} (hK : L.K = X.K) (hg : Gl X "enumerate") (hm : X.mg "enumerate" = none) (hs : noStar e = true) (h : PE X e (tE L f q)) :
    PI X (.Tuple elts kk tpos) (.Call (.Name "enumerate" p) [e] [] pos) (tI L (vEnum f) q) :=
  PI.imp (pi_enum hg hm (a_cons hs (e_frz h) a_nil) (star_cons hs)) fun σ H R hh => by
    obtain ⟨env, B, F, m, ds, xs, env', he, k⟩ := hh
    obtain ⟨⟨r, e1⟩, h1, he⟩ := bind_eq he
    dsimp only at he
    split at he
    · rename_i xs
      cases he
      refine ⟨env, B, F, m, [.w (.d (.list xs))], _, by unfold fCons; rw [h1]; rfl, fun vs H' F' T' o => ?_⟩
      have o' : Out L B σ q H F [.w (.d (.list xs))] env' vs H' F' T' := by simpa using o
      have x := o'.ms.res
      have : ∃ a, vs = [.ref a] ∧ ∃ ws, SqL L.K H' a ws := by
        generalize hA : Av B F' T' = AA at x
        cases x with
        | cons y t =>
          cases t
          have y := res_d y
          cases y with
          | @lst a ws _ e n r => exact ⟨a, rfl, ws, SqL.of e⟩
      obtain ⟨a, rfl, ws, hq⟩ := this
      have o2 : Out L B σ q H F ([PyData.list xs].map wd) env' [.ref a] H' F' [] := by
        have y := o'.ms.res1
        have d := res_d y
        have hT : RR L (Av B F' T') H' σ (.w (.d (.list xs))) (.ref a) T' → T' = [] := fun y => by
          generalize hA : Av B F' T' = AA at y
          cases y with
          | w y => cases y; rfl
        have hT := hT y
        subst hT
        exact o'
      exact ⟨a, ws, rfl, by rw [← hK]; exact hq, k [.ref a] H' F' _ o2 (it_enum hK)⟩
    · cases he
end Rf
end

section
set_option Elab.async false
set_option linter.all false
set_option maxRecDepth 100000
/-! enumerate of a tuple. -/
namespace Rf
open PySem PySem.Spec PyProof.Rows L2
set_option maxHeartbeats 1000000 in
theorem meets_enum1 {v : Value} {o : Obj} {H : Heap → Prop} (B : Begins v o H) :
    Meets (Builtin.«enumerate.__new__» ⟨[.type "enumerate", v], []⟩) (fun _ R s => H s.heap ∧
      R (.ok (.ret (.ref (s.heap.push o).objs.size))) { s with heap := (s.heap.push o).push { cls := .type "enumerate", data := .fields #[.none, .bool false, .ref s.heap.objs.size, rawInt 0, .none, .none] } }) :=
  .of_wp fun prog w A R s h => by
    obtain ⟨hp, g, d, tk, os⟩ := s; obtain ⟨h1, h⟩ := h
    have hsub := sub_enumerate
    have q1 : ∀ {A' : Around} {E : Value → Shared → Prop} {Q : Value → Shared → Prop}, Q (.ref hp.objs.size) ⟨hp.push o, g, d, tk, os⟩ → wpAny (model prog w) A' (pyIter v) Q E ⟨hp, g, d, tk, os⟩ :=
      fun q => B.iter prog w _ _ ⟨hp, g, d, tk, os⟩ _ h1 q
    wp_walk using q1
    refine wpAny_stack_any fun st => wpAny_pure ?_
    split
    · rename_i c _ _ _ _ _
      cases (c == Value.type "enumerate")
      · wp_walk using q1
        exact ⟨_, rfl, h⟩
      · wp_walk using q1
        exact ⟨_, rfl, h⟩
    · wp_walk using q1
      exact ⟨_, rfl, h⟩
section
variable {prog : Program} {w : World} {A : Around} {E : Value → Shared → Prop} {s : Shared}
theorem enum1_begins {v : Value} {o : Obj} {H : Heap → Prop} {Q : Value → Shared → Prop} (B : Begins v o H) (h1 : H s.heap)
    (h : ∀ h', IsEnum h' (s.heap.objs.size + 1) s.heap.objs.size 0 .none → h'.get? s.heap.objs.size = some o → h'.objs.size = s.heap.objs.size + 2 →
      (∀ b o, s.heap.get? b = some o → h'.get? b = some o) → Q (.ref (s.heap.objs.size + 1)) { s with heap := h' }) :
    wpAny (model prog w) A (call (.type "enumerate") [v]) Q E s := by
  refine callType_new F.called_enumerate (by decide) (F.typeCall_enumerate_1 _) (F.newCall_enumerate_1 _) (fun obj => F.args_object_init_2 obj _) F.entry_enumerate_new
    (meets_enum1 B) ⟨h1, ?_⟩
  have hz : (s.heap.push o).objs.size = s.heap.objs.size + 1 := Heap.size_push ..
  show _ ∧ _
  rw [hz]
  have he : IsEnum ((s.heap.push o).push { cls := .type "enumerate", data := .fields #[.none, .bool false, .ref s.heap.objs.size, rawInt 0, .none, .none] }) (s.heap.objs.size + 1) s.heap.objs.size 0 .none := by
    have := Heap.get?_push_size (s.heap.push o) (o := { cls := .type "enumerate", data := .fields #[.none, .bool false, .ref s.heap.objs.size, rawInt 0, .none, .none] }) rfl
    rw [hz] at this; exact this
  refine ⟨⟨_, he, rfl⟩, h _ he (Heap.get?_push_of_some _ (Heap.get?_push_size _ B.free)) (by rw [Heap.size_push, hz]) fun b o x => Heap.get?_push_of_some _ (Heap.get?_push_of_some _ x)⟩
end
theorem tuple_over {prog : Program} {w : World} {A : Around} (hh : A.handled = none) (it t : Addr) (i : Nat) (items : Array Value) (hi : items[i]? = none) :
    Draws prog w A it [it, t] i (fun _ _ => True) (fun j h => j = i ∧ h.IsTupleIter it t i ∧ h.IsTuple t items) where
  live := fun _ _ st => let ⟨o, ho, _⟩ := st.2.1; ⟨o, ho⟩
  frame := fun _ _ _ st hk => ⟨st.1, st.2.1.at fun o e => hk it (by simp) o e, st.2.2.at fun o e => hk t (by simp) o e⟩
  item := fun j s Q E hj st hQ => absurd st.1 (Nat.ne_of_lt hj)
  done := fun s Q E st hE => wpAny_nextOf_tuple_end hh st.2.1 st.2.2 hi hE
/-- the tuple at a, each item in a new pair -/
def IteT (K : PySem.W.Frag) (a : Addr) : It :=
  ⟨fun i H => ∃ (xs : List V) (x : V), SqT K H a xs ∧ xs[i]? = some x, fun i H v H' => ∃ T x, v = .ref T ∧ H T = none ∧ H' = upd H T (.tup [.int (i : Nat), x]) ∧ ∀ xs, SqT K H a xs → xs[i]? = some x, fun i H => ∃ xs : List V, SqT K H a xs ∧ xs.length ≤ i⟩
theorem turn_enumT {P : Program} {w : World} {K : PySem.W.Frag} {elts : List Expr} {kk : Nat} {tpos : Pos} (a e it : Addr) :
    Turn P w K (.Tuple elts kk tpos) (IteT K a) [e, it] e (fun i h => (∃ old, IsEnum h e it ((i : Nat) : Int) old) ∧ h.IsTupleIter it a i ∧ e ≠ it ∧ a ≠ it ∧ a ≠ e) where
  mem := by simp
  obj := fun i h st b hb => by
    obtain ⟨⟨old, he⟩, ⟨o, ho, hc, hd⟩, _⟩ := st
    have e' : b = e ∨ b = it := by simpa using hb
    rcases e' with z | z
    · rw [z]; exact ⟨_, he, fun v q => nomatch q⟩
    · rw [z]; exact ⟨o, ho, fun v q => by rw [hd] at q; cases q⟩
  keep := fun i h h' st k => let ⟨⟨old, he⟩, hi, hne⟩ := st; ⟨⟨old, k e (by simp) _ he⟩, hi.at fun o q => k it (by simp) o q, hne⟩
  item := by
    intro X hP hw hK hc i pins s σ H E I hf st hg
    subst hP hw hK
    obtain ⟨⟨old, he⟩, hit, hne, hai, hae⟩ := st
    obtain ⟨xs, x, hq, hx⟩ := hg
    obtain ⟨its, rv, p, hz⟩ := I.tuple hq
    obtain ⟨u, hu, ru⟩ := rv.get hx
    have hel : e < s.heap.objs.size := Heap.lt_size he
    have hil : it < s.heap.objs.size := by obtain ⟨_, q, _⟩ := hit; exact Heap.lt_size q
    have hlt : i < its.toArray.size := by
      have := (List.getElem?_eq_some_iff.mp hu).1
      simpa using this
    refine wpAny_pyNext_enum_itemC (Draws.tuple (prog := X.prog) (w := X.w) (A := X.A.in1) (I.ok.hd hc) it a hai its.toArray) he (i := i) (c := (i : Int)) ⟨hit, (show s.heap.IsTuple a its.toArray from p)⟩ hlt hne (by simp [hne, Ne.symm hae]) fun x' h' tk hP ho hs' hT hsz hk => ?_
    obtain ⟨hit', _⟩ := hs'
    obtain rfl : x' = u := by
      have q : its.toArray[i]? = some x' := hP
      rw [List.getElem?_toArray, hu] at q
      exact (Option.some.inj q).symm
    refine ⟨_, rfl, wpAny_letOwnedTupleGo_enum (s := { s with heap := h', toks := tk + 1 }) ho fun h'' he' sb => ?_⟩
    have hT2 : h''.get? s.heap.objs.size = some { cls := .type "tuple", data := .seq #[.int i tk, x'] } := (sb.2 _ (Nat.ne_of_gt hel)).trans hT
    have new : ObjOk X.prog X.w (upd H s.heap.objs.size (.tup [.int (i : Nat), x])) h'' s.heap.objs.size (.tup [.int (i : Nat), x]) :=
      ⟨by show 2 ≤ sizeLine; decide, [.int i tk, x'], .cons ⟨_, rfl⟩ (.cons ru .nil), ⟨_, hT2, rfl, _, rfl⟩⟩
    have I1 : Inv X pins σ (upd H s.heap.objs.size (.tup [.int (i : Nat), x])) { s with heap := h'', toks := tk + 1 } :=
      I.turnedNew (ch := [e, it]) (fun b ob hb q => (sb.2 b (fun z => hb (by simp [z]))).trans (hk b ob (fun z => hb (by simp [z])) (fun z => hb (by simp [z])) q)) hf (Nat.le_refl _) new
    refine ⟨.ref s.heap.objs.size, _, I1, rfl, ⟨_, x, rfl, I.hok.fresh (Nat.le_refl _), rfl, fun ys hy => by rw [I.tuple_inj hy hq]; exact hx⟩, ⟨⟨x', ?_⟩, hit'.at fun o q => (sb.2 it (Ne.symm hne)).trans q, hne, hai, hae⟩, fun b hb => ?_⟩
    · have e1 : ((i + 1 : Nat) : Int) = (i : Int) + 1 := by omega
      rw [e1]; exact he'
    · have hb' : b < s.heap.objs.size := by
        have e' : b = e ∨ b = it := by simpa using hb
        rcases e' with z | z
        · rw [z]; exact hel
        · rw [z]; exact hil
      rw [upd_ne (Nat.ne_of_lt hb')]
      exact (hf b hb).1
  done := by
    intro X hP hw hK hc i pins s σ H E I hf st hg
    subst hP hw hK
    obtain ⟨⟨old, he⟩, hit, hne, hai, hae⟩ := st
    obtain ⟨xs, hq, hx⟩ := hg
    obtain ⟨its, rv, p, hz⟩ := I.tuple hq
    obtain ⟨f0, f1, f2, f3, f4, f5⟩ := hf it (by simp)
    have hl := rv.length
    refine wpAny_pyNext_enum_endD (tuple_over (prog := X.prog) (w := X.w) (A := X.A.in1) (I.ok.hd hc) it a i its.toArray (by simp; omega)) he ⟨rfl, hit, p⟩ fun h' eb => ⟨rfl, I.turned (t' := s.toks) (fun b o hb q => eb b o hb q) f0 f1 f3 f4 f5⟩
  self := fun A i s Q E st h => let ⟨⟨_, he⟩, _⟩ := st; wpAny_pyIter_enum he h
def iEnumA (K : PySem.W.Frag) (ta : TA) : TI := fun σ H R => ta σ H fun vs H1 => ∃ a xs, vs = [.ref a] ∧ ((SqL K H1 a xs ∧ R (Ite K a) H1) ∨ (SqT K H1 a xs ∧ R (IteT K a) H1))
theorem pi_enumA {X : Cx} {e : Expr} {ta : TA} {p pos tpos : Pos} {elts : List Expr} {kk : Nat} (hg : Gl X "enumerate") (hm : X.mg "enumerate" = none) (ha : PA X [e] ta) (hs : starEach [e] X.env = [(false, eval e X.env)] := by rfl) :
    PI X (.Tuple elts kk tpos) (.Call (.Name "enumerate" p) [e] [] pos) (iEnumA X.K ta) := by
  refine ⟨fun pins s σ H R I h => ?_⟩
  refine Call_ (ld_blt I hg hm boot_enumerate (PyProof.Rows.callWith_type1 (thn (ha.run pos pins s σ H _ I h) fun us s1 ⟨vs, H1, I1, r1, q1⟩ => ?_) hs rfl))
  obtain ⟨a, xs, ex, q1⟩ := q1
  subst ex
  cases r1 with
  | cons r rr =>
    cases rr
    cases r
    have fp2 : ∀ b, b ∈ [s1.heap.objs.size + 1, s1.heap.objs.size] → FpOk X pins H1 b := fun b hb => by
      have e' : b = s1.heap.objs.size + 1 ∨ b = s1.heap.objs.size := by simpa using hb
      have hle : s1.heap.objs.size ≤ b := by
        rcases e' with z | z
        · rw [z]; exact Nat.le_add_right _ _
        · rw [z]; exact Nat.le_refl _
      exact I1.fpOk hle (I1.hok.fresh hle)
    rcases q1 with ⟨hq, q⟩ | ⟨hq, q⟩
    · obtain ⟨its, rv, p', hz⟩ := I1.list hq
      refine call_enumerate_list p'.isList fun h' he hit hsz hk => wpAny_pyIter_enum he ?_
      have I2 : Inv X pins σ H1 { s1 with heap := h' } := I1.kept (t' := s1.toks) hk
      exact ⟨s1.heap.objs.size + 1, [s1.heap.objs.size + 1, s1.heap.objs.size], _, _, H1, rfl, I2, turn_enum a (s1.heap.objs.size + 1) s1.heap.objs.size, ⟨⟨.none, he⟩, hit, Nat.succ_ne_self _⟩, fp2, q⟩
    · obtain ⟨its, rv, p', hz⟩ := I1.tuple hq
      have hT : s1.heap.IsTuple a its.toArray := p'
      have hal : a < s1.heap.objs.size := by obtain ⟨o, ho, _⟩ := id hT; exact Heap.lt_size ho
      refine enum1_begins (begins_tuple a its.toArray) hT fun h' he hit hsz hk => wpAny_pyIter_enum he ?_
      have I2 : Inv X pins σ H1 { s1 with heap := h' } := I1.kept (t' := s1.toks) hk
      exact ⟨s1.heap.objs.size + 1, [s1.heap.objs.size + 1, s1.heap.objs.size], _, _, H1, rfl, I2, turn_enumT a (s1.heap.objs.size + 1) s1.heap.objs.size, ⟨⟨.none, he⟩, ⟨_, hit, rfl, rfl⟩, Nat.succ_ne_self _, Nat.ne_of_lt hal, Nat.ne_of_lt (Nat.lt_succ_of_lt hal)⟩, fp2, q⟩
theorem it_enumT {L : Ly} {X : Cx} {a : Addr} {xs : List PyData} (hK : L.K = X.K) : ItOk L (IteT X.K a) [.tuple xs] [.ref a] (enumD xs) where
  go := fun i H A h hi => by
    cases h with
    | cons h _ =>
      cases h with
      | @tup _ vs _ e r =>
        obtain ⟨v, hv, _⟩ := r.get (List.getElem?_eq_getElem (by simpa [enumD] using hi))
        exact ⟨vs, v, by rw [← hK]; exact e, hv⟩
  stop := fun i H A h hi => by
    cases h with
    | cons h _ =>
      cases h with
      | @tup _ vs _ e r => exact ⟨vs, by rw [← hK]; exact e, by rw [r.length]; simpa [enumD] using hi⟩
  yld := fun i H A x H' d h hd hy => by
    cases h with
    | cons h _ =>
      cases h with
      | @tup _ vs _ e r =>
        obtain ⟨T, u, rfl, hT, rfl, hy⟩ := hy
        unfold enumD at hd
        rw [List.getElem?_mapIdx] at hd
        obtain ⟨d0, hd0, rfl⟩ := Option.map_eq_some_iff.mp hd
        obtain ⟨v, hv, q⟩ := r.get hd0
        have := hy vs (by rw [← hK]; exact e)
        rw [hv] at this; cases this
        have sm : Same H (upd H T (.tup [.int (i : Nat), u])) := same_new hT
        exact ⟨sm, .tup (SqT.of upd_same) (.cons (.int _) (.cons (q.step (stp_of sm) (fun _ z => z.elim) fun b z => .inl z) .nil))⟩
def vEnumA (f : Ev) : Sv := fun env => do
  let (r, e1) ← fFrz f env
  match r with
  | .w (.d (.list xs)) => pure (([.list xs], enumD xs), e1)
  | .w (.d (.tuple xs)) => pure (([.tuple xs], enumD xs), e1)
  | _ => .fail
/-- one datum has come: at an address, nothing owned -/
theorem one_dat {L : Ly} {B : AS} {σ : St} {q : Bool} {H H' : Hp} {F F' T' : List Addr} {env' : Env} {vs : List V} {d : PyData} (o : Out L B σ q H F [.w (.d d)] env' vs H' F' T') : ∃ v, vs = [v] ∧ T' = [] ∧ Dq L.K (Av B F' []) H' v d := by
  have x := o.ms.res
  generalize hA : Av B F' T' = AA at x
  cases x with
  | cons y t =>
    cases t
    cases y with
    | w y =>
      cases y with
      | d y =>
        subst hA
        exact ⟨_, rfl, rfl, y⟩
theorem i_enumA {L : Ly} {X : Cx} {elts : List Expr} {kk : Nat} {tpos p pos : Pos} {e : Expr} {f : Ev} {q : Bool} (hK : L.K = X.K) (hg : Gl X "enumerate") (hm : X.mg "enumerate" = none) (hs : noStar e = true) (h : PE X e (tE L f q)) :
    PI X (.Tuple elts kk tpos) (.Call (.Name "enumerate" p) [e] [] pos) (tI L (vEnumA f) q) :=
  PI.imp (pi_enumA hg hm (a_cons hs (e_frz h) a_nil) (star_cons hs)) fun σ H R hh => by
    obtain ⟨env, B, F, m, ds, xs, env', he, k⟩ := hh
    obtain ⟨⟨r, e1⟩, h1, he⟩ := bind_eq he
    dsimp only at he
    split at he
    · rename_i xs
      cases he
      refine ⟨env, B, F, m, [.w (.d (.list xs))], _, by unfold fCons; rw [h1]; rfl, fun vs H' F' T' o => ?_⟩
      have o' : Out L B σ q H F [.w (.d (.list xs))] env' vs H' F' T' := by simpa using o
      obtain ⟨v, rfl, rfl, y⟩ := one_dat o'
      cases y with
      | @lst a ws _ e n r => exact ⟨a, ws, rfl, .inl ⟨by rw [← hK]; exact SqL.of e, k [.ref a] H' F' _ o' (it_enum hK)⟩⟩
    · rename_i xs
      cases he
      refine ⟨env, B, F, m, [.w (.d (.tuple xs))], _, by unfold fCons; rw [h1]; rfl, fun vs H' F' T' o => ?_⟩
      have o' : Out L B σ q H F [.w (.d (.tuple xs))] env' vs H' F' T' := by simpa using o
      obtain ⟨v, rfl, rfl, y⟩ := one_dat o'
      cases y with
      | @tup a ws _ e r => exact ⟨a, ws, rfl, .inr ⟨by rw [← hK]; exact e, k [.ref a] H' F' _ o' (it_enumT hK)⟩⟩
    · cases he
end Rf
end

section
set_option Elab.async false
set_option linter.all false
set_option maxRecDepth 100000
/-! Sets of keys that are scanned (numbers, texts), over the bare heap: add, all of a list, gathered. -/
namespace Rf
open PySem PySem.Spec PyProof.Rows L2
theorem paired_perm {α β : Type} {F : α → β → Prop} {xs : List α} {ys ys' : List β} (p : ys.Perm ys') (h : Paired F xs ys) : ∃ xs', Paired F xs' ys' ∧ xs'.Perm xs := by
  induction p generalizing xs with
  | nil => exact ⟨xs, h, .refl _⟩
  | cons y _ ih =>
    cases h with
    | @cons a _ l _ r t =>
      obtain ⟨xs', t', q⟩ := ih t
      exact ⟨a :: xs', .cons r t', q.cons a⟩
  | swap y z l =>
    cases h with
    | @cons a _ _ _ r t =>
      cases t with
      | @cons b _ l2 _ r2 t => exact ⟨b :: a :: l2, .cons r2 (.cons r t), .swap a b l2⟩
  | trans _ _ ih1 ih2 =>
    obtain ⟨x1, t1, q1⟩ := ih1 h
    obtain ⟨x2, t2, q2⟩ := ih2 t1
    exact ⟨x2, t2, q2.trans q1⟩
theorem paired_mem {α β : Type} {F : α → β → Prop} {xs : List α} {ys : List β} (h : Paired F xs ys) : (∀ x ∈ xs, ∃ y ∈ ys, F x y) ∧ (∀ y ∈ ys, ∃ x ∈ xs, F x y) ∧ xs.length = ys.length := by
  induction h with
  | nil => exact ⟨(fun _ h => by cases h), (fun _ h => by cases h), rfl⟩
  | @cons a b l m r t ih =>
    obtain ⟨i1, i2, i3⟩ := ih
    refine ⟨fun x hx => ?_, fun y hy => ?_, by simp [i3]⟩
    · rcases List.mem_cons.mp hx with rfl | hx
      · exact ⟨b, List.mem_cons_self, r⟩
      · obtain ⟨y, hy, z⟩ := i1 x hx
        exact ⟨y, List.mem_cons_of_mem _ hy, z⟩
    · rcases List.mem_cons.mp hy with rfl | hy
      · exact ⟨a, List.mem_cons_self, r⟩
      · obtain ⟨x, hx, z⟩ := i2 y hy
        exact ⟨x, List.mem_cons_of_mem _ hx, z⟩
/-- what is put in: first come, once -/
def dd1 {κ : Type} [DecidableEq κ] (l : List κ) (k : κ) : List κ := if k ∈ l then l else l ++ [k]
def dd {κ : Type} [DecidableEq κ] (l : List κ) : List κ := l.foldl dd1 []
section
variable {κ : Type} [DecidableEq κ] {P : Program} {w : World}
def EntG (knd : KeyKind P w κ) (k : κ) (e : Int × Value) : Prop := knd.is k e.2 = true ∧ e.1 = knd.hash k ∧ e.2.scannable = true
def SetG (knd : KeyKind P w κ) (h : Heap) (a : Addr) (ks : List κ) : Prop :=
  ∃ o es ep t ks', h.get? a = some o ∧ o.ExactSet ∧ o.data = .set es ep t ∧ Paired (EntG knd) ks' es.toList ∧ ks'.Perm ks ∧ ks.Nodup ∧ es.size < scanBound ∧ t.fits es.size = true ∧ Ris t.place.toList ∧
    (w.params.followText "set-order" = true ∨ t.led = true)
variable {knd : KeyKind P w κ} {A : Around} {E : Value → Shared → Prop} {s : Shared} {a : Addr} {ks : List κ}
theorem SetG.keep {h h' : Heap} (R : SetG knd h a ks) (q : ∀ o, h.get? a = some o → h'.get? a = some o) : SetG knd h' a ks := by
  obtain ⟨o, es, ep, t, ks', ho, r⟩ := R
  exact ⟨o, es, ep, t, ks', q o ho, r⟩
theorem ents {ks' : List κ} {es : List (Int × Value)} (pr : Paired (EntG knd) ks' es) : ElemsOf knd es := fun e he => by
  obtain ⟨k, _, r⟩ := (paired_mem pr).2.1 e he
  exact ⟨⟨k, r.1, r.2.1⟩, r.2.2⟩
theorem ent_mem {ks' : List κ} {es : List (Int × Value)} (pr : Paired (EntG knd) ks' es) (k : κ) : k ∈ ks' ↔ ∃ e ∈ es, knd.is k e.2 = true := by
  obtain ⟨p1, p2, _⟩ := paired_mem pr
  refine ⟨fun h => ?_, fun ⟨e, he, q⟩ => ?_⟩
  · obtain ⟨e, he, r⟩ := p1 k h
    exact ⟨e, he, r.1⟩
  · obtain ⟨k', hk, r⟩ := p2 e he
    rw [knd.inj _ _ _ q r.1]; exact hk
/-- the table is written, and perhaps laid anew -/
theorem setG_end {g : Bool → Sem Unit} (hg : ∀ (b : Bool) (s₁ : Shared) (Q' : Unit → Shared → Prop), Q' () s₁ → wpAny (model P w) A (g b) Q' E s₁)
    {o : Obj} {es0 es : Array (Int × Value)} {ep : Nat} {t0 t : SetTable} (ho : s.heap.get? a = some o) (hx : o.ExactSet) (hd : o.data = .set es0 ep t0) {ks' : List κ} (pr : Paired (EntG knd) ks' es.toList) (pm : ks'.Perm ks) (nd : ks.Nodup)
    (hb : es.size < scanBound) (hf : t.fits es.size = true) (hr : Ris t.place.toList) (hl : w.params.followText "set-order" = true ∨ t.led = true) {was : Bool} {R : Option Bool → Shared → Prop}
    (fin : ∀ h', Heap.SameBut a s.heap h' → SetG knd h' a ks → R (some true) { s with heap := h' }) :
    wpAny (model P w) A (do
        storeSet a es t
        if (!was && t.tooFull) = true then do
            g (relayAll t es (SetTable.grown es.size)).2.2
            storeSet a (relayAll t es (SetTable.grown es.size)).1 (relayAll t es (SetTable.grown es.size)).2.1
            pure (some true)
          else pure (some true)) R E s := by
  refine wpAny_bind (wpAny_storeSet_of ho hd ?_ (fits_of_scanBound hb))
  have at1 := store_at (es' := es) (t' := t) ho hd
  have but1 := Heap.SameBut.update s.heap a (Obj.putSet es t)
  by_cases full : (!was && t.tooFull) = true
  · rw [if_pos full]
    have q1 := relayAll_perm t es (SetTable.grown es.size)
    have q2 := relayAll_fits t es (SetTable.grown es.size)
    have q3 := relayAll_ris t es (SetTable.grown es.size)
    have q4 := relayAll_led t es (SetTable.grown es.size)
    revert q1 q2 q3 q4
    generalize relayAll t es (SetTable.grown es.size) = Z
    obtain ⟨es2, t2, gave⟩ := Z
    intro q1 q2 q3 q4
    dsimp only at q1 q2 q3 q4 ⊢
    have same : es2.size = es.size := by
      have := q1.length_eq
      simpa using this
    obtain ⟨ks2, pr2, pm2⟩ := paired_perm q1.symm pr
    refine wpAny_bind (hg _ _ _ ?_)
    refine wpAny_bind (wpAny_storeSet_of at1 rfl ?_ (fits_of_scanBound (by rw [same]; exact hb)))
    have at2 := store_at (es' := es2) (t' := t2) at1 rfl
    exact wpAny_pure (fin _ (but1.trans (Heap.SameBut.update _ a _)) ⟨_, es2, _, t2, ks2, at2, hx, rfl, pr2, pm2.trans pm, nd, by rw [same]; exact hb, q2, q3, hl.imp id fun z => q4.trans z⟩)
  · rw [if_neg full]
    exact wpAny_pure (fin _ but1 ⟨_, es, _, t, ks', at1, hx, rfl, pr, pm, nd, hb, hf, hr, hl⟩)
theorem setG_add {k : κ} {v : Value} {Q : Bool → Shared → Prop} (hk : knd.is k v = true) (hs : v.scannable = true) (R : SetG knd s.heap a ks) (room : ks.length + 1 < scanBound)
    (fin : ∀ h', Heap.SameBut a s.heap h' → SetG knd h' a (dd1 ks k) → Q (!decide (k ∈ ks)) { s with heap := h' }) :
    wpAny (model P w) A (setAddHashed a v (knd.hash k)) Q E s := by
  have R0 := R
  obtain ⟨o, es, ep, t, ks', ho, hx, hd, pr, pm, nd, hb, hf, hr, hl⟩ := R
  unfold setAddHashed setAddHashedIn
  refine wpAny_holding (wpAny_bind (wpAny_setState_of ho hd hf ?_))
  dsimp only
  rw [byScan_of hs hb (ents pr)]
  simp only [↓reduceIte]
  unfold setAddByScan
  refine wpAny_bind (wpAny_bind (wpAny_rule (wpAny_bind (wpAny_setScan_of hk ho hd hf (ents pr) ?_))))
  cases found : List.findIdx? (fun e => knd.is k e.2) es.toList with
  | some j =>
    dsimp only
    obtain ⟨hj, pj, _⟩ := List.findIdx?_eq_some_iff_getElem.mp found
    have mem : k ∈ ks := pm.mem_iff.mp ((ent_mem pr k).mpr ⟨_, List.getElem_mem hj, pj⟩)
    have q := fin s.heap (Heap.SameBut.refl a s.heap) (by unfold dd1; rw [if_pos mem]; exact R0)
    rw [decide_eq_true mem] at q
    exact wpAny_pure (wpAny_pure q)
  | none =>
    dsimp only
    have out' : k ∉ ks' := fun z => by
      obtain ⟨e, he, q⟩ := (ent_mem pr k).mp z
      have c := List.findIdx?_eq_none_iff.mp found e he
      rw [q] at c
      exact absurd c (by decide)
    have out : k ∉ ks := fun z => out' (pm.mem_iff.mpr z)
    have e1 : dd1 ks k = ks ++ [k] := if_neg out
    have q1 := layNew_perm t es (knd.hash k) v
    have q2 := layNew_fits t es (knd.hash k) v
    have q3 := layNew_ris t es (knd.hash k) v hr
    have q4 := layNew_led t es (knd.hash k) v
    revert q1 q2 q3 q4
    generalize layNew t es (knd.hash k) v = Z
    obtain ⟨es1, t1, was, gave⟩ := Z
    intro q1 q2 q3 q4
    dsimp only at q1 q2 q3 q4 ⊢
    rw [Array.toList_push] at q1
    have pr1 : Paired (EntG knd) (ks' ++ [k]) (es.toList ++ [(knd.hash k, v)]) := pr.snoc ⟨hk, rfl, hs⟩
    obtain ⟨ks1, pr2, pm2⟩ := paired_perm q1.symm pr1
    have pm3 : ks1.Perm (ks ++ [k]) := pm2.trans (pm.append_right [k])
    have nd1 : (ks ++ [k]).Nodup := List.nodup_append.mpr ⟨nd, by simp, fun x hx y hy e => out (by rw [List.mem_singleton] at hy; rw [← hy, ← e]; exact hx)⟩
    have sz1 : es1.size < scanBound := by
      have l1 := (paired_mem pr2).2.2
      have l2 := pm3.length_eq
      simp at l1 l2
      omega
    have led1 : w.params.followText "set-order" = true ∨ t1.led = true := hl.imp id fun z => q4.trans z
    have last : ∀ h', Heap.SameBut a s.heap h' → SetG knd h' a (ks ++ [k]) → wpAny (model P w) A (pure true : Sem Bool) Q E { s with heap := h' } := fun h' sb r => by
      have q := fin h' sb (by rw [e1]; exact r)
      rw [decide_eq_false out] at q
      exact wpAny_pure q
    have way : ∀ (b : Bool) (s₁ : Shared) (Q' : Unit → Shared → Prop), Q' () s₁ → wpAny (model P w) A (match b with | true => rule "set.scan.the-table-gave-way" | false => pure ()) Q' E s₁ :=
      fun b s₁ Q' q => by cases b <;> first | exact wpAny_pure q | exact wpAny_rule q
    refine wpAny_bind (way _ _ _ ?_)
    by_cases pl : t1.plain = true
    · rw [if_pos pl, hashByValue_scannable 8 hs]
      refine wpAny_bind (wpAny_pure ?_)
      cases plainKind v with
      | true => exact setG_end way ho hx hd pr2 pm3 nd1 sz1 q2 q3 led1 fun h' sb r => last h' sb r
      | false => exact setG_end way ho hx hd pr2 pm3 nd1 sz1 (SetTable.fits_plain_off q2) q3 led1 fun h' sb r => last h' sb r
    · rw [if_neg pl]
      refine wpAny_bind (wpAny_pure ?_)
      exact setG_end way ho hx hd pr2 pm3 nd1 sz1 q2 q3 led1 fun h' sb r => last h' sb r

/-! #### all of a list -/
theorem dd_snoc (l : List κ) (k : κ) : dd (l ++ [k]) = dd1 (dd l) k := by unfold dd; rw [List.foldl_append]; rfl
theorem dd1_len (l : List κ) (k : κ) : (dd1 l k).length ≤ l.length + 1 := by unfold dd1; split <;> simp
theorem dd_len (l : List κ) : (dd l).length ≤ l.length := by
  have : ∀ (l acc : List κ), (l.foldl dd1 acc).length ≤ acc.length + l.length := fun l => by
    induction l with
    | nil => intro acc; simp
    | cons x l ih =>
      intro acc
      have h1 := ih (dd1 acc x)
      have h2 := dd1_len acc x
      simp only [List.foldl_cons, List.length_cons]
      omega
  have h := this l []
  have e : ([] : List κ).length = 0 := rfl
  rw [e, Nat.zero_add] at h
  exact h
theorem take_snoc {xs : List κ} {i : Nat} (h : i < xs.length) : xs.take (i + 1) = xs.take i ++ [xs[i]] := by
  rw [List.take_succ, List.getElem?_eq_getElem h]; rfl
/-- each value stands for its key -/
def KeysAt (knd : KeyKind P w κ) (xs : List κ) (vs : List Value) : Prop := Paired (fun k v => knd.is k v = true ∧ v.scannable = true) xs vs
theorem keys_get {xs : List κ} {vs : List Value} (h : KeysAt knd xs vs) : ∀ (i : Nat) (v : Value), vs[i]? = some v → ∃ (hi : i < xs.length), knd.is xs[i] v = true ∧ v.scannable = true := by
  induction h with
  | nil => intro i v e; simp at e
  | cons r t ih =>
    intro i v e
    cases i with
    | zero => simp at e; subst e; exact ⟨by simp, r⟩
    | succ i =>
      obtain ⟨hi, q⟩ := ih i v (by simpa using e)
      exact ⟨by simpa using hi, by simpa using q⟩
section
variable {R : Result → Shared → Prop} {I : Addr} {fp wr : List Addr} {G : Array GenState → Array GenState → Prop} {n : Nat} {Pv : Nat → Value → Prop} {St : Nat → Shared → Prop}
theorem set_loop (W : WalksS P w A.in1 I fp wr G n Pv St) (hSf : a ∉ fp) (xs : List κ) (hn : n = xs.length) (hv : ∀ i v, Pv i v → ∃ (hi : i < xs.length), knd.is xs[i] v = true ∧ v.scannable = true) (room : n + 1 < scanBound) :
    ∀ (m i : Nat) (s : Shared), n - i = m → i ≤ n → St i s → SetG knd s.heap a (dd (xs.take i)) →
      (∀ s', Moved (a :: wr) G s s' → SetG knd s'.heap a (dd xs) → R (.ok (.ret .none)) s') →
      codeAny (model P w) A (.builtin "set.update.loop" ⟨[.ref a, .ref I], []⟩) R s := by
  have hSw : a ∉ wr := fun h => hSf (W.sub _ h)
  have wider : ∀ b ∈ wr, b ∈ a :: wr := fun b hb => List.mem_cons_of_mem _ hb
  intro m
  induction m with
  | zero =>
    intro i s hm hi st hS k
    have e : i = n := by omega
    rw [e] at st hS
    refine codeAny_builtin PyProof.Rows.F.entry_set_update_loop ?_
    rw [Around.under_plainId PyProof.Rows.F.plain_set_update_loop _]
    show wpAny _ A.in1 (pyNext (.ref I) >>= _) _ _ s
    refine wpAny_bind (W.done s _ _ st fun s' mv => ?_)
    show wpAny _ A.in1 (ret Value.none) _ _ s'
    refine wpAny_pure (k s' (mv.mono wider) ?_)
    have q := hS.keep (h' := s'.heap) fun o ho => mv.heap a o hSw ho
    rwa [hn, List.take_length] at q
  | succ m ih =>
    intro i s hm hi st hS k
    have lt : i < n := by omega
    refine codeAny_builtin PyProof.Rows.F.entry_set_update_loop ?_
    rw [Around.under_plainId PyProof.Rows.F.plain_set_update_loop _]
    show wpAny _ A.in1 (pyNext (.ref I) >>= _) _ _ s
    refine wpAny_bind (W.item i s _ _ lt st fun v s' hp st' mv => ?_)
    obtain ⟨hix, kv, sv⟩ := hv i v hp
    have hS1 := hS.keep (h' := s'.heap) fun o ho => mv.heap a o hSw ho
    show wpAny _ A.in1 (holding [v] (setAdd a v) >>= _) _ _ s'
    refine wpAny_bind (wpAny_holding ?_)
    unfold setAdd
    refine wpAny_holding (wpAny_bind (knd.pyHash kv ?_))
    have lend : (dd (xs.take i)).length + 1 < scanBound := by
      have := dd_len (xs.take i)
      have := List.length_take_le i xs
      omega
    refine setG_add (s := { s' with toks := s'.toks + 1 }) kv sv hS1 lend fun h' sb hS2 => ?_
    have hS3 : SetG knd h' a (dd (xs.take (i + 1))) := by rw [take_snoc hix, dd_snoc]; exact hS2
    refine wpAny_pure ⟨plainId_quiet PyProof.Rows.F.plain_set_update_loop _, ih (i + 1) _ (by omega) lt (W.frame _ s' _ _ st' (Nat.le_succ _) fun b hb o e => ?_) hS3 fun s'' mv2 hS4 => ?_⟩
    · exact (sb.2 b fun z => hSf (z ▸ hb)).trans e
    · refine k s'' (Moved.trans W.gtrans ((mv.mono wider).then_heap (Nat.le_succ _) fun b o hb e => ?_) mv2) hS4
      exact (sb.2 b fun z => hb (z ▸ List.mem_cons_self)).trans e
end
theorem setG_fresh (h : Heap) : SetG knd (h.push { cls := .type "set", dict := none, data := .set #[] 0 (.fresh 0 0 (!w.params.followText "set-order")) }) h.objs.size [] := by
  have R := setR_fresh (w := w) (h := h)
  obtain ⟨o, es, ep, t, ho, hx, hd, g, nd, hm, hb, hf, hn, hr, hl⟩ := R
  have e0 : es.toList = [] := by
    have : es.toList.length = 0 := by simpa using hn
    exact List.length_eq_zero_iff.mp this
  exact ⟨o, es, ep, t, [], ho, hx, hd, by rw [e0]; exact .nil, .refl _, .nil, hb, hf, hr, hl⟩
end

section
variable {κ : Type} [DecidableEq κ] {P : Program} {w : World} {knd : KeyKind P w κ} {A : Around} {E : Value → Shared → Prop} {s : Shared}
theorem code_set1 (v : Value) {Q₁ : Value → Shared → Prop}
    (h : Q₁ (.ref s.heap.objs.size) { s with heap := s.heap.push { cls := .type "set", dict := none, data := .set #[] 0 (.fresh 0 0 (!w.params.followText "set-order")) } }) :
    codeAny (model P w) A (.call (.builtin "set.__new__") ⟨[.type "set", v], []⟩) (wants Q₁ E) s := by
  refine codeAny_of_tree ?_
  show wpAny _ A.in1 (do checkBuiltinCall "set.__new__" ⟨[.type "set", v], []⟩; again (.builtin "set.__new__" ⟨[.type "set", v], []⟩)) _ _ s
  refine wpAny_bind (wpAny_of_eq (PySem.F.newCall_set_1 v) (wpAny_pure ⟨plainId_quiet PySem.F.plain_set_new _, codeAny_builtin PySem.F.entry_set_new ?_⟩))
  rw [Around.under_plainId PySem.F.plain_set_new _]
  unfold Builtin.«set.__new__» Builtin.Frozenset.newClass
  have hsub := sub_set_self
  obtain ⟨hp, g, d, tk, os⟩ := s
  dsimp only
  wp_walk
  refine wpAny_askSetting (wpAny_pure ?_)
  dsimp only
  simp only [newObj]
  refine wpAny_bind (wpAny_alloc (wpAny_pure ?_))
  exact wpAny_pure h
set_option maxHeartbeats 3200000 in
theorem call_set_keys {l : Addr} {items : Array Value} {xs : List κ} {Q : Value → Shared → Prop} (hh : A.handled = none) (hl : s.heap.IsList l items) (hi : KeysAt knd xs items.toList) (room : items.size + 1 < scanBound)
    (fin : ∀ (h' : Heap) (tk : Nat), SetG knd h' s.heap.objs.size (dd xs) → (∀ b o, b < s.heap.objs.size → s.heap.get? b = some o → h'.get? b = some o) → Q (.ref s.heap.objs.size) { s with heap := h', toks := tk }) :
    wpAny (model P w) A (call (.type "set") [.ref l]) Q E s := by
  obtain ⟨c, tl, hmro⟩ := PySem.F.called_set.mro
  have hmade := PySem.F.called_set.made
  have hsub := PySem.F.called_set.sub
  have hlen : items.size = xs.length := by
    have := (paired_mem hi).2.2
    simpa using this.symm
  refine wpAny_call (codeAny_of_tree ?_)
  show wpAny _ _ (callAny (.type "set") _) _ _ _
  refine wpAny_pure ⟨Code.quiet_builtin _ (by decide +kernel), codeAny_builtin PySem.F.entry_type_call ?_⟩
  rw [Around.under_plain (weight_type_call_type "set" [.ref l] []) rfl]
  have h1 := PySem.F.called_set.notType
  have h2 := PySem.F.called_set.canCreate
  have hct := PySem.F.typeCall_set_1 (.ref l)
  repeat (any_goals (first | assumption | wp_step))
  refine codeAny_mono (code_set1 (P := P) (w := w) (.ref l) (E := E) (Q₁ := fun obj s₁ => obj = .ref s.heap.objs.size ∧ s₁ = { s with heap := s.heap.push { cls := .type "set", dict := none, data := .set #[] 0 (.fresh 0 0 (!w.params.followText "set-order")) } }) ⟨rfl, rfl⟩) fun r s₁ hr => ?_
  cases r with
  | error e => exact hr
  | ok fl =>
    cases fl with
    | ret obj =>
      obtain ⟨rfl, rfl⟩ := hr
      have fresh := setG_fresh (knd := knd) s.heap
      have hS : (s.heap.push { cls := .type "set", dict := none, data := .set #[] 0 (.fresh 0 0 (!w.params.followText "set-order")) }).get? s.heap.objs.size = some { cls := .type "set", dict := none, data := .set #[] 0 (.fresh 0 0 (!w.params.followText "set-order")) } := Heap.get?_push_size _ rfl
      have hT : Shared.TypeIs { s with heap := s.heap.push { cls := .type "set", dict := none, data := .set #[] 0 (.fresh 0 0 (!w.params.followText "set-order")) } } (.ref s.heap.objs.size) "set" := ⟨_, hS, rfl⟩
      have hz : (s.heap.push { cls := .type "set", dict := none, data := .set #[] 0 (.fresh 0 0 (!w.params.followText "set-order")) }).objs.size = s.heap.objs.size + 1 := Heap.size_push ..
      have olds : ∀ b o, s.heap.get? b = some o → (s.heap.push { cls := .type "set", dict := none, data := .set #[] 0 (.fresh 0 0 (!w.params.followText "set-order")) }).get? b = some o := fun b o e => Heap.get?_push_of_some _ e
      have hli := PySem.F.called_set.init.lookup
      have hbi := PySem.F.called_set.init.bind (.ref s.heap.objs.size)
      generalize s.heap.push { cls := .type "set", dict := none, data := .set #[] 0 (.fresh 0 0 (!w.params.followText "set-order")) } = h1 at fresh hS hT hz olds ⊢
      repeat (any_goals (first | assumption | wp_step))
      refine codeAny_mono (codeAny_call_builtin (R := wants (fun r s₂ => r = .none ∧ ∃ h' tk, s₂ = { s with heap := h', toks := tk } ∧ SetG knd h' s.heap.objs.size (dd xs) ∧
          (∀ b o, b < s.heap.objs.size → s.heap.get? b = some o → h'.get? b = some o)) E) PySem.F.called_set.init.plain PySem.F.entry_set_init (check_set_init_1 hT ?_)) fun r₂ s₂ hr₂ => ?_
      · obtain ⟨ol, hol, hcl, nl, hdl⟩ := hl
        obtain ⟨ocls, odict, odata, oslots⟩ := ol
        simp only at hcl hdl
        subst hcl; subst hdl
        have hol' : h1.get? l = some { cls := .type "list", dict := odict, data := .seq items nl, slots := oslots } := olds _ _ hol
        have hsls := PySem.F.sub_list_set
        have hslf := PySem.F.sub_list_frozenset
        have hne : (Value.type "list" == Value.type "dict") = false := by decide
        have hl1 : h1.IsList l items := ⟨_, hol', rfl, nl, rfl⟩
        unfold Builtin.«set.__init__» noKeywords Builtin.Frozenset.updateFrom
        generalize hPI : pyIter = PI
        wp_walk
        subst hPI
        refine wpAny_pyIter_list hl1 ?_
        refine wpAny_bind (wpAny_runValue ?_)
        have hlS : l < s.heap.objs.size := Heap.lt_size hol
        have hh3 : A.in1.in1.in1.handled = none := by simp [hh]
        have hneI : l ≠ h1.objs.size := by rw [hz]; exact Nat.ne_of_lt (Nat.lt_succ_of_lt hlS)
        have hSf : s.heap.objs.size ∉ [h1.objs.size, l] := by
          rw [hz]
          intro z
          rcases List.mem_cons.mp z with z | z
          · exact Nat.ne_of_lt (Nat.lt_succ_self _) z
          · exact Nat.ne_of_gt hlS (List.mem_singleton.mp z)
        refine set_loop (knd := knd) ((Walks.list hh3 _ l hneI items).toS) hSf xs hlen (fun i v hv => keys_get hi i v (by rw [Array.getElem?_toList]; exact hv)) room (items.size - 0) 0 _ (by omega) (Nat.zero_le _)
          ⟨⟨_, Heap.get?_push_size _ rfl, rfl, rfl⟩, (hl1.push _)⟩ (fresh.keep fun o e => Heap.get?_push_of_some _ e) fun s' mv hS' => ?_
        obtain ⟨h', g', d', tk', os'⟩ := s'
        have eg : g' = s.gens := mv.gens
        have ed : d' = s.drawn := mv.drawn
        have eo : os' = s.os := mv.os
        subst eg; subst ed; subst eo
        show wpAny _ _ _ _ _ _
        refine wpAny_pure ?_
        show wpAny _ _ (ret Value.none) _ _ _
        refine wpAny_pure ⟨rfl, h', tk', rfl, hS', fun b o hb e => ?_⟩
        refine mv.heap b o (fun z => ?_) (Heap.get?_push_of_some _ (olds _ _ e))
        rw [hz] at z
        rcases List.mem_cons.mp z with z | z
        · exact Nat.ne_of_lt hb z
        · exact Nat.ne_of_lt (Nat.lt_succ_of_lt hb) (List.mem_singleton.mp z)
      · cases r₂ with
        | error e => exact hr₂
        | ok fl₂ =>
          cases fl₂ with
          | ret r =>
            obtain ⟨rfl, h', tk, rfl, hS', hk'⟩ := hr₂
            repeat (any_goals (first | assumption | wp_step))
            exact fin _ _ hS' hk'
          | _ => exact hr₂.elim
    | _ => exact hr.elim
end
end Rf
end

section
set_option Elab.async false
set_option linter.all false
set_option maxRecDepth 100000
/-! sorted(set(xs)), len(set(xs)). -/
namespace Rf
open PySem PySem.Spec PyProof.Rows L2
theorem paired_map {α β : Type} (f : α → β) : ∀ l : List α, Paired (fun (b : α) (k : β) => k = f b) l (l.map f)
  | [] => .nil
  | b :: l => .cons rfl (paired_map f l)
theorem paired_snd {κ : Type} [DecidableEq κ] {P : Program} {w : World} {knd : KeyKind P w κ} : ∀ {ks : List κ} {l : List (Int × Value)}, Paired (EntG knd) ks l → Paired (fun k v => knd.is k v = true) ks (l.map (·.2))
  | _, _, .nil => .nil
  | _, _, .cons r t => .cons r.1 (paired_snd t)
theorem each_of {β κ : Type} {F : κ → Value → Prop} {emb : β → κ} : ∀ {bs : List β} {ks : List κ} {vs : List Value}, Paired (fun (b : β) (k : κ) => k = emb b) bs ks → Paired F ks vs → PySem.W.EachIs (fun v b => F (emb b) v) vs bs
  | _, _, _, .nil, .nil => .nil
  | _, _, _, .cons e t, .cons r u => by subst e; exact .cons r (each_of t u)
section
variable {P : Program} {w : World} {A : Around} {E : Value → Shared → Prop} {s : Shared}
theorem sorted_setG {β : Type} (emb : β → Key) (enc : β → PyData) (hr : ∀ (h : Heap) (b : β) (v : Value), (mixKind P w).is (emb b) v = true → Reads h v (enc b) []) (hal : ∀ b b', PySem.W.alike (enc b) (enc b') = true) (hk : ∀ b, enc b ≠ .none ∧ ∀ xs, enc b ≠ .tuple xs) (h0 : ∀ b, (enc b).depth = 0)
    {a : Addr} {bs : List β} {Q : Value → Shared → Prop} (hh : A.handled = none) (hu : A.units + 4 < cLine) (R : SetG (mixKind P w) s.heap a (bs.map emb))
    (fin : ∀ s' p (out : List Value) c (bs' : List β), (∀ b o, s.heap.get? b = some o → s'.heap.get? b = some o) → s'.gens = s.gens → s'.os = s.os → s.heap.objs.size ≤ p → s'.heap.get? p = some (seqObj "list" out.toArray c) →
      PySem.W.EachIs (fun v b => (mixKind P w).is (emb b) v = true) out (bs'.mergeSort (PySem.W.dataLe false enc)) → bs'.Perm bs → out.length = bs.length → Q (.ref p) s') :
    wpAny (model P w) A (call (.builtin "sorted") [.ref a]) Q E s := by
  obtain ⟨o, es, ep, t, ks', ho, hx, hd, pr, pm, nd, hb, hf, hri, hl⟩ := R
  refine Calls.call_function_entry kind_sorted plain_sorted entry_sorted (args_sorted1 _) ?_
  unfold Builtin.«sorted»
  refine wpAny_bind (m := checkCount "sorted" 1 1 _) (wpAny_pure ?_)
  refine wpAny_bind (collect_set (A := A.in1) hh ⟨o, ho, hx.1, hd⟩ hf hb hri hl fun s1 vs k1 hz g1 o1 qp => ?_)
  -- the keys of what was gathered
  have pr1 := paired_snd pr
  obtain ⟨k2, pr2, pm2⟩ := paired_perm qp.symm pr1
  have prb := paired_map emb bs
  obtain ⟨bs', prb', pmb⟩ := paired_perm (pm2.trans pm).symm prb
  have each : PySem.W.EachIs (fun v b => (mixKind P w).is (emb b) v = true) vs bs' := each_of (F := fun k v => (mixKind P w).is k v = true) prb' pr2
  have hvl : vs.length = bs'.length := each.length
  have hbl : bs'.length = bs.length := pmb.length_eq
  have small : bs.length < scanBound := by
    have l1 := (paired_mem pr).2.2
    have l2 := pm.length_eq
    simp at l1 l2
    omega
  have hsl : bs'.length ≤ sizeLine := by rw [hbl]; exact fits_of_scanBound small
  refine wpAny_bind (wpAny_newList ?_ (by rw [hvl]; exact hsl))
  have hoL : (s1.heap.push (seqObj "list" vs.toArray 0)).get? s1.heap.objs.size = some (seqObj "list" vs.toArray 0) := Heap.get?_push_size _ rfl
  have esz : (s1.heap.push (seqObj "list" vs.toArray 0)).objs.size = s1.heap.objs.size + 1 := size_push' _ _
  refine wpAny_bind (wpAny_holding (PySem.W.list_sort_data (R := fun v b => (mixKind P w).is (emb b) v = true) (enc := enc) (bs := bs') (s := { s1 with heap := s1.heap.push (seqObj "list" vs.toArray 0) }) hoL each (each.mono fun v b z => ⟨[], hr _ b v z, by simp⟩) (PySem.W.AllAlike.of hal) (PySem.W.Sortable.others hk) hsl (fun b _ => by rw [h0 b]; simp only [Around.in1_units]; omega) fun out q1 q2 => ?_))
  obtain ⟨c, hc⟩ := sortedHeap_at (vs := vs) (out := out.toArray) hoL
  refine wpAny_pure ⟨_, rfl, fin _ s1.heap.objs.size out c bs' (fun b u e => ?_) g1 o1 hz hc q2 pmb (q1.trans hbl)⟩
  have q := k1 b u e
  have hlt := Heap.lt_size q
  show (sortedHeap (s1.heap.push (seqObj "list" vs.toArray 0)) s1.heap.objs.size vs out.toArray).get? b = some u
  rw [sortedHeap_old (Nat.ne_of_lt hlt) (by rw [esz]; exact Nat.lt_succ_of_lt hlt)]
  exact Heap.get?_push_of_some _ q
end

/-! #### sorting by putting in -/
def insL {α : Type} (le : α → α → Bool) (x : α) : List α → List α
  | [] => [x]
  | y :: l => if le x y then x :: y :: l else y :: insL le x l
def sortL {α : Type} (le : α → α → Bool) : List α → List α
  | [] => []
  | x :: l => insL le x (sortL le l)
theorem insL_perm {α : Type} (le : α → α → Bool) (x : α) : ∀ l, (insL le x l).Perm (x :: l)
  | [] => .refl _
  | y :: l => by
    unfold insL
    split
    · exact .refl _
    · exact ((insL_perm le x l).cons y).trans (.swap x y l)
theorem sortL_perm {α : Type} (le : α → α → Bool) : ∀ l, (sortL le l).Perm l
  | [] => .refl _
  | x :: l => (insL_perm le x _).trans ((sortL_perm le l).cons x)
theorem insL_up {α : Type} {le : α → α → Bool} (tr : ∀ a b c, le a b = true → le b c = true → le a c = true) (to : ∀ a b, (le a b || le b a) = true) (x : α) : ∀ l, l.Pairwise (fun a b => le a b = true) → (insL le x l).Pairwise (fun a b => le a b = true)
  | [], _ => by simp [insL]
  | y :: l, h => by
    have h' := List.pairwise_cons.mp h
    unfold insL
    split
    · rename_i hxy
      refine List.pairwise_cons.mpr ⟨fun z hz => ?_, h⟩
      rcases List.mem_cons.mp hz with rfl | hz
      · exact hxy
      · exact tr _ _ _ hxy (h'.1 z hz)
    · rename_i hxy
      refine List.pairwise_cons.mpr ⟨fun z hz => ?_, insL_up tr to x l h'.2⟩
      rcases List.mem_cons.mp ((insL_perm le x l).mem_iff.mp hz) with rfl | hz
      · have := to y z
        rw [Bool.or_eq_true] at this
        exact this.resolve_right hxy
      · exact h'.1 z hz
theorem sortL_up {α : Type} {le : α → α → Bool} (tr : ∀ a b c, le a b = true → le b c = true → le a c = true) (to : ∀ a b, (le a b || le b a) = true) : ∀ l, (sortL le l).Pairwise (fun a b => le a b = true)
  | [] => .nil
  | x :: l => insL_up tr to x _ (sortL_up tr to l)
theorem sort_same {α : Type} {le : α → α → Bool} (tr : ∀ a b c, le a b = true → le b c = true → le a c = true) (to : ∀ a b, (le a b || le b a) = true) (an : ∀ a b, le a b = true → le b a = true → a = b) {l m : List α} (p : l.Perm m) : l.mergeSort le = sortL le m :=
  List.Perm.eq_of_pairwise (le := fun a b => le a b = true) (fun a b _ _ => an a b) (List.pairwise_mergeSort tr to l) (sortL_up tr to m) ((List.mergeSort_perm l le).trans (p.trans (sortL_perm le m).symm))
def iLe (a b : Int) : Bool := decide (a ≤ b)
def tLe (a b : Str) : Bool := decide (a.cps.toList ≤ b.cps.toList)
theorem iLe_tr (a b c : Int) (h : iLe a b = true) (k : iLe b c = true) : iLe a c = true := decide_eq_true (Int.le_trans (of_decide_eq_true h) (of_decide_eq_true k))
theorem iLe_to (a b : Int) : (iLe a b || iLe b a) = true := by
  unfold iLe
  rw [Bool.or_eq_true, decide_eq_true_eq, decide_eq_true_eq]; omega
theorem iLe_an (a b : Int) (h : iLe a b = true) (k : iLe b a = true) : a = b := Int.le_antisymm (of_decide_eq_true h) (of_decide_eq_true k)
theorem tLe_tr (a b c : Str) (h : tLe a b = true) (k : tLe b c = true) : tLe a c = true := decide_eq_true (List.le_trans (of_decide_eq_true h) (of_decide_eq_true k))
theorem tLe_to (a b : Str) : (tLe a b || tLe b a) = true := by
  unfold tLe
  rw [Bool.or_eq_true, decide_eq_true_eq, decide_eq_true_eq]
  exact List.le_total _ _
theorem tLe_an (a b : Str) (h : tLe a b = true) (k : tLe b a = true) : a = b := by
  have e := List.le_antisymm (of_decide_eq_true h) (of_decide_eq_true k)
  cases a; cases b
  simp only [Str.mk.injEq]
  exact Array.toList_inj.mp e
theorem dd_map {α β : Type} [DecidableEq α] [DecidableEq β] (f : α → β) (hf : ∀ x y, f x = f y → x = y) (l : List α) : dd (l.map f) = (dd l).map f := by
  have key : ∀ (l acc : List α), (l.map f).foldl dd1 (acc.map f) = (l.foldl dd1 acc).map f := fun l => by
    induction l with
    | nil => intro acc; rfl
    | cons x l ih =>
      intro acc
      have e : dd1 (acc.map f) (f x) = (dd1 acc x).map f := by
        unfold dd1
        by_cases h : x ∈ acc
        · rw [if_pos h, if_pos (List.mem_map_of_mem h)]
        · rw [if_neg h, if_neg fun z => ?_]
          · simp
          · obtain ⟨y, hy, e⟩ := List.mem_map.mp z
            rw [hf _ _ e] at hy
            exact h hy
      simp only [List.map_cons, List.foldl_cons]
      rw [e, ih]
  exact key l []
/-! #### the rules -/
def tSortSet (K : PySem.W.Frag) (ta : TE) : TE := fun σ H Q => ta σ H fun x H1 => ∃ l, x = .ref l ∧
  ((∃ ns : List Int, SqL K H1 l (ns.map V.int) ∧ ns.length + 1 < scanBound ∧ ∀ p, H1 p = none → Q (.ref p) (upd H1 p (.lst ((sortL iLe (dd ns)).map V.int)))) ∨
   (∃ ns : List Str, SqL K H1 l (ns.map V.str) ∧ ns.length + 1 < scanBound ∧ ∀ p, H1 p = none → Q (.ref p) (upd H1 p (.lst ((sortL tLe (dd ns)).map V.str)))))
def tLenSet2 (K : PySem.W.Frag) (ta : TE) : TE := fun σ H Q => ta σ H fun x H1 => ∃ l, ∃ ks : List Key, x = .ref l ∧ SqL K H1 l (ks.map kV) ∧ ks.length + 1 < scanBound ∧ Q (.int ((dd ks).length : Nat)) H1
theorem keys_of {P : Program} {w : World} : ∀ {ks : List Key} {us : List Value}, Vals (ks.map kV) us → KeysAt (mixKind P w) ks us
  | [], _, h => by cases h; exact .nil
  | k :: ks, _, h => by
    cases h with
    | cons r t => exact .cons ⟨kV_is r, key_scan r⟩ (keys_of t)
section
variable {X : Cx} {a : Expr} {ta : TE} {p p2 q pos : Pos}
theorem pe_lenSet2 (hg : Gl X "len") (hm : X.mg "len" = none) (hg2 : Gl X "set") (hm2 : X.mg "set" = none) (ha : PE X a ta) (hc : X.calm = true)
    (na : starEach [a] X.env = (false, eval a X.env) :: starEach [] X.env) : PE X (.Call (.Name "len" p) [.Call (.Name "set" p2) [a] [] q] [] pos) (tLenSet2 X.K ta) := by
  refine ⟨fun pins s σ H Q I h => ?_⟩
  refine Call_ (ld_blt I hg hm boot_len ?_)
  refine PyProof.Rows.callWith_builtin1 (PyProof.Rows.args_cons ?_ rfl) rfl rfl
  refine Call_ (ld_blt I hg2 hm2 PyProof.Rows.boot_set ?_)
  refine PyProof.Rows.callWith_type1 (PyProof.Rows.args_cons (thn (ha.run pins s σ H _ I h) fun v s1 ⟨x, H1, I1, r1, q1⟩ => PyProof.Rows.args_nil ?_) na) na rfl
  obtain ⟨l, ks, rfl, hq, hl, q1⟩ := q1
  cases r1
  obtain ⟨its, r, pl, hz⟩ := I1.list hq
  have hlen : its.toArray.size = ks.length := by rw [List.size_toArray, ← r.length, List.length_map]
  refine call_set_keys (knd := mixKind X.prog X.w) (I1.ok.hd hc) pl.isList (by simpa using keys_of r) (by rw [hlen]; exact hl) fun h' tk hS hk => ?_
  refine PyProof.Rows.args_nil ?_
  obtain ⟨o, es, ep, t, ks', ho, hx, hd, pr, pm, _, hb, hf, _, _⟩ := hS
  have hn : es.size = (dd ks).length := by
    have l1 := (paired_mem pr).2.2
    have l2 := pm.length_eq
    simp at l1
    omega
  have I2 : Inv X pins σ H1 { s1 with heap := h', toks := tk } := I1.kept fun b o e => hk b o (Heap.lt_size e) e
  exact call_len_set ho hx hd hf (by rw [hn]; have := dd_len ks; unfold scanBound at hl; omega) ⟨.int ((dd ks).length : Nat), H1, I2.tok _, ⟨_, by rw [hn]⟩, q1⟩

theorem int_shape {P : Program} {w : World} {b : Int} {v : Value} (e : (mixKind P w).is (Sum.inl b) v = true) : ∃ t, v = .int b t := by
  rcases L2.keyIs_shape (show L2.keyIs (Sum.inl b) v = true from e) with ⟨i, t, h1, h2⟩ | ⟨x, t, h1, h2⟩
  · cases h1; exact ⟨t, h2⟩
  · cases h1
theorem str_shape {P : Program} {w : World} {b : Str} {v : Value} (e : (mixKind P w).is (Sum.inr b) v = true) : ∃ t, v = .str b t := by
  rcases L2.keyIs_shape (show L2.keyIs (Sum.inr b) v = true from e) with ⟨i, t, h1, h2⟩ | ⟨x, t, h1, h2⟩
  · cases h1
  · cases h1; exact ⟨t, h2⟩
theorem int_reads {P : Program} {w : World} (h : Heap) (b : Int) (v : Value) (e : (mixKind P w).is (Sum.inl b) v = true) : Reads h v (.int b) [] := by
  obtain ⟨t, q⟩ := int_shape e
  subst q
  exact .int b t
theorem str_reads {P : Program} {w : World} (h : Heap) (b : Str) (v : Value) (e : (mixKind P w).is (Sum.inr b) v = true) : Reads h v (.str b) [] := by
  obtain ⟨t, q⟩ := str_shape e
  subst q
  exact .str b t
theorem vals_int {P : Program} {w : World} : ∀ {out : List Value} {bs : List Int}, PySem.W.EachIs (fun v b => (mixKind P w).is (Sum.inl b) v = true) out bs → Vals (bs.map V.int) out
  | _, _, .nil => .nil
  | _, _, .cons e t => .cons (int_shape e) (vals_int t)
theorem vals_str {P : Program} {w : World} : ∀ {out : List Value} {bs : List Str}, PySem.W.EachIs (fun v b => (mixKind P w).is (Sum.inr b) v = true) out bs → Vals (bs.map V.str) out
  | _, _, .nil => .nil
  | _, _, .cons e t => .cons (str_shape e) (vals_str t)
theorem pe_sortSet (hg : Gl X "sorted") (hm : X.mg "sorted" = none) (hg2 : Gl X "set") (hm2 : X.mg "set" = none) (ha : PE X a ta) (hc : X.calm = true) (hu : X.A.units + 8 < cLine)
    (na : starEach [a] X.env = (false, eval a X.env) :: starEach [] X.env) : PE X (.Call (.Name "sorted" p) [.Call (.Name "set" p2) [a] [] q] [] pos) (tSortSet X.K ta) := by
  refine ⟨fun pins s σ H Q I h => ?_⟩
  refine Call_ (ld_blt I hg hm PyProof.Rows.boot_sorted ?_)
  refine PyProof.Rows.callWith_builtin1 (PyProof.Rows.args_cons ?_ rfl) rfl rfl
  refine Call_ (ld_blt I hg2 hm2 PyProof.Rows.boot_set ?_)
  refine PyProof.Rows.callWith_type1 (PyProof.Rows.args_cons (thn (ha.run pins s σ H _ I h) fun v s1 ⟨x, H1, I1, r1, q1⟩ => PyProof.Rows.args_nil ?_) na) na rfl
  obtain ⟨l, rfl, q1⟩ := q1
  cases r1
  -- the end, once the list stands
  have close : ∀ (s0 s' : Shared) (p : Addr) (out : List Value) (c : Nat) (vs : List V), Inv X pins σ H1 s0 → Vals vs out → out.length ≤ sizeLine → (∀ b o, s0.heap.get? b = some o → s'.heap.get? b = some o) → s'.gens = s0.gens → s'.os = s0.os → s0.heap.objs.size ≤ p → s'.heap.get? p = some (seqObj "list" out.toArray c) →
      (∀ p, H1 p = none → Q (.ref p) (upd H1 p (.lst vs))) → EP X pins σ Q (.ref p) s' := fun s0 s' p out c vs I0 rv hl k g o hp hgp fin => by
    have hn : H1 p = none := I0.hok.fresh hp
    have hlen : vs.length ≤ sizeLine := by rw [rv.length]; exact hl
    have J : Inv X pins σ (upd H1 p (.lst vs)) { s0 with heap := s'.heap, gens := s'.gens, drawn := s'.drawn, toks := s'.toks } :=
      I0.call (ch := []) (Un.laid k hp hn) (I0.hok.laid k hp ⟨hlen, out, c, rv, hgp⟩) (by rw [g]; exact I0.bare) (fun _ z => nomatch z)
    have e : s' = { s0 with heap := s'.heap, gens := s'.gens, drawn := s'.drawn, toks := s'.toks } := by
      cases s'
      cases s0
      cases o
      rfl
    rw [e]
    exact ⟨.ref p, _, J, rfl, fin p hn⟩
  rcases q1 with ⟨ns, hq, hl, fin⟩ | ⟨ns, hq, hl, fin⟩
  · obtain ⟨its, r, pl, hz⟩ := I1.list hq
    have r' : Vals ((ns.map Sum.inl).map kV) its := by rw [List.map_map]; exact r
    have hlen : its.toArray.size = ns.length := by rw [List.size_toArray, ← r.length, List.length_map]
    refine call_set_keys (knd := mixKind X.prog X.w) (I1.ok.hd hc) pl.isList (by simpa using keys_of r') (by rw [hlen]; exact hl) fun h' tk hS hk => ?_
    refine PyProof.Rows.args_nil ?_
    have I2 : Inv X pins σ H1 { s1 with heap := h', toks := tk } := I1.kept fun b o e => hk b o (Heap.lt_size e) e
    rw [dd_map Sum.inl (fun x y e => Sum.inl.inj e)] at hS
    refine sorted_setG (P := X.prog) (w := X.w) (β := Int) (s := { s1 with heap := h', toks := tk }) Sum.inl (fun i => .int i) int_reads (fun _ _ => by simp [PySem.W.alike]) (fun b => ⟨(fun z => by cases z), (fun xs z => by cases z)⟩) (fun b => rfl) (I1.ok.hd hc) (by omega) hS fun s' p out c bs' k g o hp hgp each pm ol => ?_
    rw [PySem.W.dataLe_int (fun i => i)] at each
    have e2 : bs'.mergeSort (fun a b => decide (a ≤ b)) = sortL iLe (dd ns) := sort_same (le := iLe) iLe_tr iLe_to iLe_an pm
    rw [e2] at each
    exact close _ s' p out c _ I2 (vals_int each) (by rw [ol]; have := dd_len ns; exact fits_of_scanBound (by omega)) k g o hp hgp fin
  · obtain ⟨its, r, pl, hz⟩ := I1.list hq
    have r' : Vals ((ns.map Sum.inr).map kV) its := by rw [List.map_map]; exact r
    have hlen : its.toArray.size = ns.length := by rw [List.size_toArray, ← r.length, List.length_map]
    refine call_set_keys (knd := mixKind X.prog X.w) (I1.ok.hd hc) pl.isList (by simpa using keys_of r') (by rw [hlen]; exact hl) fun h' tk hS hk => ?_
    refine PyProof.Rows.args_nil ?_
    have I2 : Inv X pins σ H1 { s1 with heap := h', toks := tk } := I1.kept fun b o e => hk b o (Heap.lt_size e) e
    rw [dd_map Sum.inr (fun x y e => Sum.inr.inj e)] at hS
    refine sorted_setG (P := X.prog) (w := X.w) (β := Str) (s := { s1 with heap := h', toks := tk }) Sum.inr (fun i => .str i) str_reads (fun _ _ => by simp [PySem.W.alike]) (fun b => ⟨(fun z => by cases z), (fun xs z => by cases z)⟩) (fun b => rfl) (I1.ok.hd hc) (by omega) hS fun s' p out c bs' k g o hp hgp each pm ol => ?_
    rw [PySem.W.dataLe_str (fun i => i)] at each
    have e2 : bs'.mergeSort (fun a b => decide (a.cps.toList ≤ b.cps.toList)) = sortL tLe (dd ns) := sort_same (le := tLe) tLe_tr tLe_to tLe_an pm
    rw [e2] at each
    exact close _ s' p out c _ I2 (vals_str each) (by rw [ol]; have := dd_len ns; exact fits_of_scanBound (by omega)) k g o hp hgp fin
/-! #### over the slots -/
def strsD : List PyData → Option (List Str)
  | [] => some []
  | .str x :: xs => (strsD xs).map (x :: ·)
  | _ :: _ => none
def keysD : List PyData → Option (List Key)
  | [] => some []
  | .int i :: xs => (keysD xs).map (Sum.inl i :: ·)
  | .str x :: xs => (keysD xs).map (Sum.inr x :: ·)
  | _ :: _ => none
def SB : Nat := 4000
def oSortSet : OpL
  | [w] => (lstW w).bind fun ds => match intsD ds with
    | some ns => if decide (ns.length < SB) then some (.ol ((sortL iLe (dd ns)).map .int)) else none
    | none => (strsD ds).bind fun ns => if decide (ns.length < SB) then some (.ol ((sortL tLe (dd ns)).map .str)) else none
  | _ => none
def oLenSet : OpL
  | [w] => (lstW w).bind fun ds => (keysD ds).bind fun ks => if decide (ks.length < SB) then some (.d (.int ((dd ks).length : Nat))) else none
  | _ => none
end
end Rf
end

section
set_option Elab.async false
set_option linter.all false
set_option maxRecDepth 10000
/-! sorted(set(xs)), len(set(xs)) over the slots. -/
namespace Rf
open PySem PySem.Spec PyProof.Rows L2
/-- an operation on one argument -/
theorem t1C {L : Ly} {o : OpL} {f : Ev} {q : Bool} {σ : St} {H : Hp} {Q : VK} (h : tE L (fCall o (fCons f fNil true)) q σ H Q) :
    tE L f q σ H fun v H1 => ∃ A w w', WV L A H1 w v ∧ o [w] = some w' ∧ (∀ a, A a → H1 a ≠ none) ∧ ∀ v' H' U, Same H1 H' → WR L (fun a => A a ∨ a ∈ U) H' w' v' U → U.Nodup → (∀ a ∈ U, H1 a = none) → Q v' H' := by
  obtain ⟨env, B, F, m, r, env', he, k⟩ := h
  obtain ⟨⟨rs, e1⟩, h1, he⟩ := bind_eq he
  obtain ⟨ws, h2, he⟩ := bind_eq he
  obtain ⟨w', h3, he⟩ := bind_eq he
  cases he
  obtain ⟨⟨r1, e2⟩, h4, h1⟩ := bind_eq h1
  obtain ⟨⟨rs2, e3⟩, h5, h1⟩ := bind_eq h1
  cases h5
  obtain ⟨_, h6, h1⟩ := bind_eq h1
  cases h1
  refine tE_next (qq := q) m (Go.refl (q := true)) h4 (.inl rfl) (fun z => by cases z) id fun v H1 F1 T1 m1 g1 => ?_
  have hw := looks_ok m1.env (by simpa using m1.res) (of_eq h2)
  have : ∃ w, ws = [w] := by
    have h2' := of_eq h2
    unfold looks at h2'
    split at h2'
    · rename_i w ws' q1 q2
      have q2' : some [] = some ws' := q2
      cases q2'
      cases h2'
      exact ⟨w, rfl⟩
    · cases h2'
  obtain ⟨w, rfl⟩ := this
  obtain ⟨v', e, hv⟩ := wv1 hw
  cases e
  refine ⟨_, w, w', hv, of_eq h3, m1.there, fun v' H' U hs hx hn hf => ?_⟩
  exact k v' H' F1 U (out_made m1 g1 hs (hx.sub av_new) hn hf)
theorem DqAll.strs {K : PySem.W.Frag} {A : AS} {H : Hp} : ∀ {vs : List V} {ds : List PyData} {bs : List Str}, DqAll K A H vs ds → strsD ds = some bs → vs = bs.map V.str
  | _, _, _, .nil, e => by cases e; rfl
  | _, _, _, .cons h t, e => by
    unfold strsD at e
    split at e
    · rename_i q; cases q
    · rename_i q
      cases q
      obtain ⟨bs, hb, rfl⟩ := Option.map_eq_some_iff.mp e
      cases h
      rw [DqAll.strs t hb]; rfl
    · cases e
theorem DqAll.keys {K : PySem.W.Frag} {A : AS} {H : Hp} : ∀ {vs : List V} {ds : List PyData} {ks : List Key}, DqAll K A H vs ds → keysD ds = some ks → vs = ks.map kV
  | _, _, _, .nil, e => by cases e; rfl
  | _, _, _, .cons h t, e => by
    unfold keysD at e
    split at e
    · rename_i q; cases q
    · rename_i q
      cases q
      obtain ⟨bs, hb, rfl⟩ := Option.map_eq_some_iff.mp e
      cases h
      rw [DqAll.keys t hb]; rfl
    · rename_i q
      cases q
      obtain ⟨bs, hb, rfl⟩ := Option.map_eq_some_iff.mp e
      cases h
      rw [DqAll.keys t hb]; rfl
    · cases e
theorem all_int {K : PySem.W.Frag} {A : AS} {H : Hp} : ∀ ns : List Int, DqAll K A H (ns.map V.int) (ns.map PyData.int)
  | [] => .nil
  | i :: ns => .cons (.int i) (all_int ns)
theorem all_str {K : PySem.W.Frag} {A : AS} {H : Hp} : ∀ ns : List Str, DqAll K A H (ns.map V.str) (ns.map PyData.str)
  | [] => .nil
  | i :: ns => .cons (.str i) (all_str ns)
section
variable {L : Ly} {X : Cx} {a : Expr} {f : Ev} {qf : Bool} {p p2 q pos : Pos}
theorem e_lenSet (hK : L.K = X.K) (hg : Gl X "len") (hm : X.mg "len" = none) (hg2 : Gl X "set") (hm2 : X.mg "set" = none) (hc : X.calm = true) (hs : noStar a = true) (ha : PE X a (tE L f qf)) :
    PE X (.Call (.Name "len" p) [.Call (.Name "set" p2) [a] [] q] [] pos) (tE L (fCall oLenSet (fCons f fNil true)) qf) :=
  PE.imp (pe_lenSet2 hg hm hg2 hm2 ha hc (star_cons hs)) fun σ H Q h => by
    obtain ⟨env, B, F, m, r, env', he, k⟩ := t1C h
    refine ⟨env, B, F, m, r, env', he, fun v H' F' T' o => ?_⟩
    obtain ⟨A, w, w', hv, e, hA, fin⟩ := k v H' F' T' o
    unfold oLenSet at e
    dsimp only at e
    obtain ⟨ds, h1, e⟩ := Option.bind_eq_some_iff.mp e
    obtain ⟨ks, h2, e⟩ := Option.bind_eq_some_iff.mp e
    split at e
    · rename_i hl
      cases e
      obtain ⟨l, vs, rfl, hl', rr⟩ := hv.lst h1
      rw [rr.keys h2] at hl'
      have hl := of_decide_eq_true hl
      exact ⟨l, ks, rfl, SqL.of hl', by unfold SB at hl; unfold scanBound; omega, new_d fin (.int _)⟩
    · cases e
theorem e_sortSet (hK : L.K = X.K) (hg : Gl X "sorted") (hm : X.mg "sorted" = none) (hg2 : Gl X "set") (hm2 : X.mg "set" = none) (hc : X.calm = true) (hu : X.A.units + 8 < cLine) (hs : noStar a = true) (ha : PE X a (tE L f qf)) :
    PE X (.Call (.Name "sorted" p) [.Call (.Name "set" p2) [a] [] q] [] pos) (tE L (fCall oSortSet (fCons f fNil true)) qf) :=
  PE.imp (pe_sortSet hg hm hg2 hm2 ha hc hu (star_cons hs)) fun σ H Q h => by
    obtain ⟨env, B, F, m, r, env', he, k⟩ := t1C h
    refine ⟨env, B, F, m, r, env', he, fun v H' F' T' o => ?_⟩
    obtain ⟨A, w, w', hv, e, hA, fin⟩ := k v H' F' T' o
    unfold oSortSet at e
    dsimp only at e
    obtain ⟨ds, h1, e⟩ := Option.bind_eq_some_iff.mp e
    obtain ⟨l, vs, rfl, hl', rr⟩ := hv.lst h1
    refine ⟨l, rfl, ?_⟩
    split at e
    · rename_i ns h2
      split at e
      · rename_i hl
        cases e
        rw [rr.ints h2] at hl'
        have hl := of_decide_eq_true hl
        exact .inl ⟨ns, SqL.of hl', by unfold SB at hl; unfold scanBound; omega, fun p hp => new_lst fin (all_int _) hp⟩
      · cases e
    · obtain ⟨ns, h2, e⟩ := Option.bind_eq_some_iff.mp e
      split at e
      · rename_i hl
        cases e
        rw [rr.strs h2] at hl'
        have hl := of_decide_eq_true hl
        exact .inr ⟨ns, SqL.of hl', by unfold SB at hl; unfold scanBound; omega, fun p hp => new_lst fin (all_str _) hp⟩
      · cases e
end
end Rf
end

section
set_option Elab.async false
set_option linter.all false
set_option maxRecDepth 10000
/-! A comprehension over an own list that stays an own list: its slot is hidden while it runs. -/
namespace Rf
open PySem PySem.Spec PyProof.Rows L2
def fCompH (own : List Nat) (put : PyData → Env → Rs Env) (i : Nat) (cond : Tv) (elt : Ev) : Ev := fun env => match env[i]? with
  | some (some (.ol xs)) => do
    let e1 := env.set i none
    need (!own.contains i && own.all (freeSlot e1))
    let (ys, e2) ← compL own put cond elt xs (wipeE e1 own) []
    let e3 := backE e1 own e2
    match e3[i]? with
    | some none => pure (.w (.ol ys), e3.set i (some (.ol xs)))
    | _ => .fail
  | _ => .fail
def fCompV (own : List Nat) (put : PyData → Env → Rs Env) (i : Nat) (cond : Tv) (elt : Ev) : Ev := fun env => match env[i]? with
  | some (some (.ol _)) => fCompH own put i cond elt env
  | _ => fComp own put (vPlain (fVar i)) cond elt env
theorem tLcH_of {L : Ly} {ok : Okk} {l own : List Nat} {put : PyData → Env → Rs Env} {i0 : Nat} {cond : Tv} {elt : Ev} {qc qe : Bool} (hown : own.Nodup) (hl : ∀ j ∈ l, j ∈ own) {σ : St} {H : Hp} {Q : VK} (h : tE L (fCompH own put i0 cond elt) (qc && qe) σ H Q) :
    tLc (iList L.K (tVar i0)) (tG L ok l put) (tT L cond qc) (tE L elt qe) own σ H Q := by
  obtain ⟨env, B, F, m, r, env', he, k⟩ := h
  unfold fCompH at he
  split at he
  case h_2 => cases he
  rename_i xs henv
  obtain ⟨_, h2, he⟩ := bind_eq he
  obtain ⟨⟨ys, e2⟩, h3, he⟩ := bind_eq he
  dsimp only at he
  split at he
  case h_2 => cases he
  rename_i hi3
  cases he
  have h2 := need_eq h2
  rw [Bool.and_eq_true] at h2
  have hio : i0 ∉ own := by simpa using h2.1
  have h2 := h2.2
  obtain ⟨v0, Fa, G0, Fb, hF0, hσ0, w0, kk⟩ := m.env.get henv
  cases w0 with
  | @ol a vs _ ha0 d0 =>
  generalize hqq : (qc && qe) = qq at k
  have q2 : qc = false → qq = false := fun z => by rw [← hqq, z]; simp
  have q3 : qe = false → qq = false := fun z => by rw [← hqq, z]; simp
  refine ⟨.ref a, hσ0, a, rfl, ⟨vs, SqL.of ha0⟩, fun D hD => ?_⟩
  -- the list is nobody's while it is walked
  have nda : a ∉ Fa ∧ a ∉ Fb := by
    have := m.nd
    rw [hF0] at this
    simp only [List.append_nil, List.nodup_append, List.mem_append, List.mem_singleton] at this
    exact ⟨fun z => this.1.2.2 a z a rfl rfl, fun z => this.2.2 a (.inr rfl) a z rfl⟩
  have aF : a ∈ F := by rw [hF0]; simp
  have naB : ¬ B a := m.dj a (.inl aF)
  let F1 := Fa ++ Fb
  have f1 : ∀ b, b ∈ F1 → b ∈ F := fun b z => by
    rw [hF0]
    rcases List.mem_append.mp z with z | z
    · simp [z]
    · simp [z]
  let B1 : AS := fun b => B b ∨ b = a
  let e1 := env.set i0 none
  have a1 : ∀ b, Av B1 F1 [] b → Av B F [] b := fun b z => by
    rcases z with (z | z) | z | z
    · exact .inl z
    · exact .inr (.inl (by rw [z]; exact aF))
    · exact .inr (.inl (f1 b z))
    · cases z
  have m1 : MS L B1 e1 σ H F1 [] [] [] := by
    obtain ⟨_, k2⟩ := kk (fun _ => False) H _ Stp.refl (fun _ z => z.elim) (fun b z => .inl z) fun _ _ z => z
    have ss : σ.set i0 (some (.ref a)) = σ := set_self hσ0
    refine ⟨by have := k2 (some (.ref a)); rw [ss] at this; exact this.sub a1, .nil, ?_, fun b z q => ?_, fun b z => ?_⟩
    · have := m.nd
      rw [hF0] at this
      simp only [List.append_nil, List.nodup_append, List.mem_append, List.mem_singleton] at this
      exact List.nodup_append.mpr ⟨List.nodup_append.mpr ⟨this.1.1, this.2.1, fun x hx y hy e => this.2.2 x (.inl hx) y hy e⟩, by simp, fun x hx y hy => by cases hy⟩
    · rcases z with z | z
      · rcases q with q | q
        · exact m.dj b (.inl (f1 b z)) q
        · rw [q] at z
          rcases List.mem_append.mp z with z | z
          · exact nda.1 z
          · exact nda.2 z
      · cases z
    · rcases z with z | z
      · exact m.al b z
      · rw [z, ha0]; intro q; cases q
  have d1 : DqAll L.K (Av B1 F1 []) H vs xs := d0.sub a1
  have frees : ∀ {e : Env}, own.all (freeSlot e) = true → ∀ i ∈ own, i < e.length := fun {e} h i hi => by
    have := List.all_eq_true.mp h i hi
    unfold freeSlot at this
    by_cases hl : i < e.length
    · exact hl
    · rw [List.getElem?_eq_none (by omega)] at this; cases this
  have hold : ∀ i ∈ own, e1[i]? = some none ∨ ∃ d u, e1[i]? = some (some (.d d)) ∧ σ[i]? = some (some u) ∧ Dq L.K (Av B1 F1 []) H u d := fun i hi => by
    have := List.all_eq_true.mp h2 i hi
    unfold freeSlot at this
    split at this
    · exact .inl (by assumption)
    · rename_i d hd
      obtain ⟨u, hu, q⟩ := m1.env.datum hd
      exact .inr ⟨d, u, hd, hu, q⟩
    · cases this
  let BD : AS := fun b => B1 b ∨ b = D
  have toD : ∀ {F2 : List Addr} {H2 : Hp}, (H2 D = none) → ∀ b, Av BD F2 [] b → Av B1 F2 [] b ∨ H2 b = none := fun {F2 H2} z b h => by
    rcases h with (h | h) | h | h
    · exact .inl (.inl h)
    · exact .inr (by rw [h]; exact z)
    · exact .inl (.inr (.inl h))
    · cases h
  have naD : a ≠ D := fun e => by rw [← e, ha0] at hD; cases hD
  let W : Nat → Nat → Hp → Prop := fun i n H2 => n = xs.length - i ∧ i ≤ xs.length ∧ ∃ e F2 acc zs, MS L BD e (wipe σ own) H2 F2 [] [] [] ∧ (H2 a = some (.lst vs) ∧ DqAll L.K (Av BD F2 []) H2 vs xs) ∧ (∀ i ∈ own, e[i]? = some none) ∧
    (∀ i ∈ own, e1[i]? = some none ∨ ∃ d u, e1[i]? = some (some (.d d)) ∧ σ[i]? = some (some u) ∧ Dq L.K (Av BD F2 []) H2 u d) ∧
    H2 D = some (.lst acc) ∧ DqAll L.K (Av BD F2 []) H2 acc zs ∧ (Go qq H F H2 F2 [D]) ∧ compL own put cond elt (xs.drop i) e zs = .ok (ys, e2)
  have sD : Same H (upd H D (.lst [])) := same_new hD
  have nD : D ∉ F1 := fun z => m1.env.there D z hD
  have bD : ¬ B D := fun z => m.al D z hD
  refine ⟨W, ⟨xs.length, by simp, Nat.zero_le _, wipeE e1 own, F1, [], [], ?_, ⟨by rw [upd_ne naD]; exact ha0, ?_⟩, fun i hi => wipe_at hi (frees h2 i hi), ?_, upd_same, .nil, ?_, h3⟩, ?_⟩
  · have mb := (m1.wipes h2).same sD
    refine ⟨(m1.wipes h2).env.step (stp_of sD) (fun _ z => z.elim) (toD hD) fun _ _ z => z, .nil, mb.nd, fun b z q => ?_, fun b z => ?_⟩
    · rcases q with q | q
      · exact mb.dj b z q
      · rcases z with z | z
        · rw [q] at z; exact nD z
        · cases z
    · rcases z with z | z
      · exact mb.al b z
      · rw [z, upd_same]; intro q; cases q
  · exact d1.same sD (toD hD)
  · intro i hi
    rcases hold i hi with z | ⟨d, u, z1, z2, z3⟩
    · exact .inl z
    · exact .inr ⟨d, u, z1, z2, z3.step (stp_of sD) (fun _ z => z.elim) (toD hD)⟩
  · exact ⟨stp_of sD |>.mono fun _ z => z.elim, fun b z => by
      rcases z with z | z
      · exact .inl (f1 b z)
      · rw [List.mem_singleton.mp z]; exact .inr hD⟩
  rintro i n H2 ⟨rfl, hi, e, F2, acc, zs, m2, ⟨ha2, dd⟩, hn, ho, hD2, da, g2, hc⟩
  have nD2 : D ∉ F2 := fun z => m2.dj D (.inl z) (.inr rfl)
  have nA2 : a ∉ F2 := fun z => m2.dj a (.inl z) (.inl (.inr rfl))
  by_cases hlt : i < xs.length
  · refine .inr ⟨⟨vs, vs[i]'(by rw [dd.length]; exact hlt), SqL.of ha2, List.getElem?_eq_getElem _⟩, fun H' => ∃ n', n' < xs.length - i ∧ W (i + 1) n' H', fun _ z => z, fun x H3 hy => ?_⟩
    have hd : xs[i]? = some xs[i] := List.getElem?_eq_getElem hlt
    obtain ⟨rfl, hy⟩ := hy
    have hx := hy vs (SqL.of ha2)
    have dx : Dq L.K (Av BD F2 []) H3 x xs[i] := by
      obtain ⟨v, hv, q⟩ := dd.get hd
      rw [hx] at hv; cases hv; exact q
    rw [List.drop_eq_getElem_cons hlt] at hc
    obtain ⟨ea, c1, hc⟩ := bind_eq hc
    obtain ⟨⟨b, eb⟩, c2, hc⟩ := bind_eq hc
    refine ⟨e, BD, F2, xs[i], ea, { m2 with res := .cons (T := []) (U := []) (.w (.d dx)) .nil }, c1, fun σ4 F4 m4 ch4 _ hF4 => ⟨(wipe_ch ch4 hl).trans (wipe_idem own), ?_⟩⟩
    have hw4 : wipe σ4 own = wipe σ own := (wipe_ch ch4 hl).trans (wipe_idem own)
    have g4 : Go qq H F H3 F4 [D] := ⟨g2.st, fun b z => g2.nw b (z.imp (hF4 b) id)⟩
    have carry : ∀ {H5 : Hp} {F5 : List Addr}, Stp (· ∈ F4) H3 H5 → (∀ b, b ∈ F5 → b ∈ F4 ∨ H3 b = none) →
        (H5 a = some (.lst vs) ∧ DqAll L.K (Av BD F5 []) H5 vs xs) ∧ (∀ i ∈ own, e1[i]? = some none ∨ ∃ d u, e1[i]? = some (some (.d d)) ∧ σ[i]? = some (some u) ∧ Dq L.K (Av BD F5 []) H5 u d) ∧ H5 D = some (.lst acc) ∧ DqAll L.K (Av BD F5 []) H5 acc zs := fun {H5 F5} s5 n5 => by
      have z4 : ∀ b, Av BD F4 [] b → Av BD F2 [] b := fun b z => by
        rcases z with z | z | z
        · exact .inl z
        · exact .inr (.inl (hF4 b z))
        · cases z
      have zz : ∀ b, b ∈ F4 → Av BD F4 [] b := fun b z => .inr (.inl z)
      have z5 : ∀ b, Av BD F5 [] b → Av BD F4 [] b ∨ H3 b = none := fun b z => by
        rcases z with z | z | z
        · exact .inl (.inl z)
        · exact (n5 b z).imp (fun z => .inr (.inl z)) id
        · cases z
      refine ⟨⟨s5.fr a _ (fun z => nA2 (hF4 a z)) ha2, (dd.sub z4).step s5 zz z5⟩, fun i hi => ?_, s5.fr D _ (fun z => nD2 (hF4 D z)) hD2, (da.sub z4).step s5 zz z5⟩
      rcases ho i hi with z | ⟨d, u, y1, y2, y3⟩
      · exact .inl z
      · exact .inr ⟨d, u, y1, y2, (y3.sub z4).step s5 zz z5⟩
    refine ⟨ea, BD, F4, m4, b, eb, c2, fun H5 F5 o5 => ?_⟩
    have g5 : Go qq H F H5 F5 [D] := by simpa using g4.next o5 id q2
    have s5 : Stp (· ∈ F4) H3 H5 := o5.st.mono fun x z => .inl z.2
    cases b with
    | false =>
      refine iteF ?_
      obtain ⟨_, c3, hc⟩ := bind_eq hc
      have c3 := need_eq c3
      obtain ⟨y1, y2, y3, y4⟩ := carry s5 fun b z => o5.nw b (.inl z)
      have m6 := o5.ms.wipes c3
      rw [hw4] at m6
      exact ⟨xs.length - (i + 1), by omega, rfl, hlt, wipeE eb own, F5, acc, zs, m6, y1, fun i hi => wipe_at hi (frees c3 i hi), y2, y3, y4, g5, hc⟩
    | true =>
      refine iteT ?_
      obtain ⟨⟨r, ec⟩, c3, hc⟩ := bind_eq hc
      obtain ⟨⟨y, ed⟩, c4, hc⟩ := bind_eq hc
      obtain ⟨_, c5, hc⟩ := bind_eq hc
      have c5 := need_eq c5
      rw [Bool.and_eq_true] at c5
      refine ⟨eb, BD, F5, o5.ms, r, ec, c3, fun v H6 F6 T6 o6 => ?_⟩
      obtain ⟨F7, o7⟩ := o6.frz c4
      have g7 : Go qq H F H6 F7 [D] := by simpa using g5.next o7 id q3
      have n57 : ∀ b, b ∈ F7 → b ∈ F4 ∨ H3 b = none := fun b z => by
        rcases o7.nw b (.inl z) with z | z
        · exact o5.nw b (.inl z)
        · by_cases hz : H3 b = none
          · exact .inr hz
          · by_cases hf : b ∈ F4
            · exact .inl hf
            · exact absurd z (by rw [s5.there hf hz]; exact hz)
      have s7 : Stp (· ∈ F4) H3 H6 := s5.trans o7.st (fun _ z => z) fun b z => o5.nw b (.inl z.2)
      obtain ⟨y1, y2, y3, y4⟩ := carry s7 n57
      have dv : Dq L.K (Av BD F7 []) H6 v y := by
        have x := o7.ms.res1
        cases x with
        | w x => cases x with
          | d x => exact x
      have wr : Stp (· = D) H6 (upd H6 D (.lst (acc ++ [v]))) := Stp.wrote rfl y3 (fun _ z => by cases z) (fun _ _ z => by cases z)
      have zD : ∀ b, b = D → Av BD F7 [] b := fun b z => .inl (.inr z)
      have fD : (qq = false ∧ D ∈ F) ∨ H D = none := .inr hD
      have m8 := o7.ms.wipes c5.2
      rw [hw4] at m8
      refine ⟨acc, y3, ?_, xs.length - (i + 1), by omega, rfl, hlt, wipeE ed own, F7, acc ++ [v], zs ++ [y], m8.other (.inr rfl) y3, ⟨by rw [upd_ne naD]; exact y1.1, y1.2.step wr zD fun b z => .inl z⟩, fun i hi => wipe_at hi (frees c5.2 i hi), fun i hi => ?_, upd_same, ?_, ?_, hc⟩
      · rw [y4.length]
        have := of_decide_eq_true c5.1
        rw [← SZ_eq]; exact this
      · rcases y2 i hi with z | ⟨d, u, x1, x2, x3⟩
        · exact .inl z
        · exact .inr ⟨d, u, x1, x2, x3.step wr zD fun b z => .inl z⟩
      · exact (y4.append (.cons dv .nil)).step wr zD fun b z => .inl z
      · exact ⟨g7.st.trans wr (fun _ z => z) fun b z => by rw [z]; exact fD, g7.nw⟩
  · have e0 : i = xs.length := by omega
    subst e0
    rw [List.drop_length] at hc
    cases hc
    obtain ⟨Fc, Fd, hF2, kp⟩ := (EnvR.back m2.env hown hn ho).put hi3 (.ol ha2 dd)
    have ss : σ.set i0 (some (.ref a)) = σ := set_self hσ0
    rw [ss] at kp
    have back : ∀ b, Av B (Fc ++ [a] ++ Fd) [D] b → Av BD F2 [] b := fun b z => by
      rcases z with z | z | z
      · exact .inl (.inl (.inl z))
      · simp only [List.mem_append, List.mem_singleton] at z
        rcases z with (z | z) | z
        · exact .inr (.inl (by rw [hF2]; simp [z]))
        · exact .inl (.inl (.inr z))
        · exact .inr (.inl (by rw [hF2]; simp [z]))
      · exact .inl (.inr (List.mem_singleton.mp z))
    have nd2 := m2.nd
    rw [hF2] at nd2 nD2 nA2
    simp only [List.append_nil, List.nodup_append, List.mem_append, not_or] at nd2 nD2 nA2
    refine .inl ⟨⟨vs, SqL.of ha2, by rw [dd.length]; exact Nat.le_refl _⟩, k (.ref D) H2 (Fc ++ [a] ++ Fd) [D] ⟨⟨kp.sub back, .cons (T := [D]) (U := []) (.w (.ol hD2 (da.sub back))) .nil, ?_, ?_, fun b z => m2.al b (.inl (.inl z))⟩, g2.st, ?_⟩⟩
    · simp only [List.nodup_append, List.mem_append, List.mem_singleton, List.append_nil]
      refine ⟨⟨⟨nd2.1, by simp, fun x hx y hy e => nA2.1 (by rw [← hy, ← e]; exact hx)⟩, nd2.2.1, fun x hx y hy e => ?_⟩, by simp, fun x hx y hy e => ?_⟩
      · rcases hx with hx | hx
        · exact nd2.2.2 x hx y hy e
        · exact nA2.2 (by rw [← hx, e]; exact hy)
      · rw [hy] at e
        rcases hx with (hx | hx) | hx
        · exact nD2.1 (e ▸ hx)
        · exact naD (hx.symm.trans e)
        · exact nD2.2 (e ▸ hx)
    · intro b z q
      rcases z with z | z
      · simp only [List.mem_append, List.mem_singleton] at z
        rcases z with (z | z) | z
        · exact m2.dj b (.inl (by rw [hF2]; simp [z])) (.inl (.inl q))
        · exact naB (z ▸ q)
        · exact m2.dj b (.inl (by rw [hF2]; simp [z])) (.inl (.inl q))
      · rw [List.mem_singleton.mp z] at q; exact bD q
    · intro b z
      rcases z with z | z
      · simp only [List.mem_append, List.mem_singleton] at z
        rcases z with (z | z) | z
        · exact g2.nw b (.inl (by rw [hF2]; simp [z]))
        · exact .inl (by rw [z]; exact aF)
        · exact g2.nw b (.inl (by rw [hF2]; simp [z]))
      · exact g2.nw b (.inr z)
theorem tCompV {L : Ly} {own : List Nat} {put : PyData → Env → Rs Env} {i : Nat} {cond : Tv} {elt : Ev} {q : Bool} {σ : St} {H : Hp} {Q : VK} (h : tE L (fCompV own put i cond elt) q σ H Q) :
    tE L (fComp own put (vPlain (fVar i)) cond elt) q σ H Q ∨ tE L (fCompH own put i cond elt) q σ H Q := by
  obtain ⟨env, B, F, m, r, env', he, k⟩ := h
  unfold fCompV at he
  split at he
  · exact .inr ⟨env, B, F, m, r, env', he, k⟩
  · exact .inl ⟨env, B, F, m, r, env', he, k⟩
theorem PE.or {X : Cx} {e : Expr} {t t' : TE} (h : PE X e t) (h' : PE X e t') : PE X e (fun σ H R => t σ H R ∨ t' σ H R) := ⟨fun pins s σ H R I hq => hq.elim (h.run pins s σ H R I) (h'.run pins s σ H R I)⟩
theorem PS.or {X : Cx} {e : Stmt} {t t' : TS} (h : PS X e t) (h' : PS X e t') : PS X e (fun D σ H => t D σ H ∨ t' D σ H) := ⟨fun pins s σ H R I hq => hq.elim (h.run pins s σ H R I) (h'.run pins s σ H R I)⟩
section
variable {L : Ly} {ok ok' : Okk} {X : Cx} {elt tg : Expr} {ifs : List Expr} {scope : Scope} {own : List (Str × Nat)} {pos np : Pos} {l : List Nat} {put : PyData → Env → Rs Env} {cond : Tv} {f : Ev} {qc qe : Bool} {j : Nat} {x : Str}
/-- [elt for tg in x if cond] -/
theorem e_compV (hK : L.K = X.K) (hc : X.calm = true) (hN : X.N.Nodup) (hown : (own.map (·.2)).Nodup) (hl : ∀ j ∈ l, j ∈ own.map (·.2))
    (hx : X.N[j]? = some x) (hv : Vis X.env.scope x) (hd : (x == ("__debug__" : Str)) = false) (hcd : (x == ("__classdict__" : Str)) = false) (bok : BlkOk X.N X.env.scope scope own)
    (hg : ∀ (s : Shared) (H : Hp) (C : Addr) (cl : List (Str × Addr)) (fp : List Addr), PG (X.blk s H scope (compEnvC scope cl C X.env) fp) tg (tG L ok l put))
    (ht : ∀ (s : Shared) (H : Hp) (C : Addr) (cl : List (Str × Addr)) (fp : List Addr), PTs (X.blk s H scope (compEnvC scope cl C X.env) fp) ifs (tT L cond qc))
    (he : ∀ (s : Shared) (H : Hp) (C : Addr) (cl : List (Str × Addr)) (fp : List Addr), PE (X.blk s H scope (compEnvC scope cl C X.env) fp) elt (tE L f qe)) (hs : ∀ y, foldedSetIterable (.Name x np) X.env y = pure y) :
    PE X (.ListComp elt [⟨tg, .Name x np, ifs, 0⟩] scope pos) (tE L (fCompV (own.map (·.2)) put j cond f) (qc && qe)) :=
  PE.imp (PE.or (e_comp hc hN hown hl (i_plain hK (e_var (L := L) hx hv hd hcd)) bok hg ht he hs) (PE.imp (pe_lc hc hN (pi_list (pe_var hx hv hd hcd)) bok hg ht he hs) fun _ _ _ h => by rw [← hK]; exact tLcH_of hown hl h)) fun σ H Q h => by
    have := tCompV h
    simpa using this
/-- y = [..] -/
theorem s_setLcV {i : Nat} {y : Str} {py spos : Pos} (hK : L.K = X.K) (hc : X.calm = true) (hN : X.N.Nodup) (hown : (own.map (·.2)).Nodup) (hl : ∀ j ∈ l, j ∈ own.map (·.2))
    (hy : X.N[i]? = some y) (hyl : X.env.scope.names.lookup y = some .local) (hsw : swapsWith (.ListComp elt [⟨tg, .Name x np, ifs, 0⟩] scope pos) (some (.Name y py)) spos.line X.env = pure true)
    (hx : X.N[j]? = some x) (hv : Vis X.env.scope x) (hd : (x == ("__debug__" : Str)) = false) (hcd : (x == ("__classdict__" : Str)) = false) (bok : BlkOk X.N X.env.scope scope own)
    (hg : ∀ (s : Shared) (H : Hp) (C : Addr) (cl : List (Str × Addr)) (fp : List Addr), PG (X.blk s H scope (compEnvC scope cl C X.env) fp) tg (tG L ok l put))
    (ht : ∀ (s : Shared) (H : Hp) (C : Addr) (cl : List (Str × Addr)) (fp : List Addr), PTs (X.blk s H scope (compEnvC scope cl C X.env) fp) ifs (tT L cond qc))
    (he : ∀ (s : Shared) (H : Hp) (C : Addr) (cl : List (Str × Addr)) (fp : List Addr), PE (X.blk s H scope (compEnvC scope cl C X.env) fp) elt (tE L f qe)) (hs : ∀ y, foldedSetIterable (.Name x np) X.env y = pure y) :
    PS X (.Assign [.Name y py] (.ListComp elt [⟨tg, .Name x np, ifs, 0⟩] scope pos) spos) (tS L ok' (xSet ok' i (fCompV (own.map (·.2)) put j cond f))) := by
  have h1 := ps_setLc hc hN hy hyl hsw (tg := tg) (iter := .Name x np) (pi_list (pe_var hx hv hd hcd)) bok hg ht he hs
  refine PS.imp (PS.or (s_setLc (ok' := ok') hc hN hown hl hy hyl hsw (i_plain hK (e_var (L := L) hx hv hd hcd)) bok hg ht he hs) h1) fun D σ H h => ?_
  obtain ⟨env, B, F, m, fl, env', hh, k⟩ := h
  by_cases hb : ∃ xs, env[j]? = some (some (.ol xs))
  · obtain ⟨xs, hb⟩ := hb
    refine .inr ?_
    have e : xSet ok' i (fCompV (own.map (·.2)) put j cond f) env = xSet ok' i (fCompH (own.map (·.2)) put j cond f) env := by
      unfold xSet fCompV; simp only [hb]
    rw [e] at hh
    have q : tAsg (tE L (fCompH (own.map (·.2)) put j cond f) (qc && qe)) (gName i) D σ H := tSet_of (ok := ok') ⟨env, B, F, m, fl, env', hh, k⟩
    rw [← hK]
    exact tLcH_of hown hl q
  · refine .inl ?_
    have e : xSet ok' i (fCompV (own.map (·.2)) put j cond f) env = xSet ok' i (fComp (own.map (·.2)) put (vPlain (fVar j)) cond f) env := by
      unfold xSet fCompV
      split
      · rename_i xs hx; exact absurd ⟨xs, hx⟩ hb
      · rfl
    rw [e] at hh
    exact ⟨env, B, F, m, fl, env', hh, k⟩
end
end Rf
end

section
set_option Elab.async false
set_option linter.all false
set_option maxRecDepth 10000
/-! A small language, what it means, and how a text of the program is read into it. -/
namespace Rf
open PySem PySem.Spec PyProof.Rows L2

inductive Bi where
  | len | int | tuple | list | all | any | sum | max | min | repr | str | lenset | sset
  deriving DecidableEq, Repr
inductive BOp where
  | add | sub | mul | mod | fdiv | pow | eq | ne | lt | le | gt | ge | is | isNot | isin | notin
  deriving DecidableEq, Repr
def BOp.sem : BOp → Op2
  | .add => dAdd
  | .sub => dSub
  | .mul => dMul
  | .mod => dMod
  | .fdiv => dFdiv
  | .pow => dPow
  | .eq => dEq
  | .ne => dNe
  | .lt => dC (fun i j => decide (i < j)) sLt
  | .le => dC (fun i j => decide (i ≤ j)) fun x y => !sLt y x
  | .gt => dC (fun i j => decide (j < i)) fun x y => sLt y x
  | .ge => dC (fun i j => decide (j ≤ i)) fun x y => !sLt x y
  | .is => dIsx false
  | .isNot => dIsx true
  | .isin => dIn
  | .notin => dNotIn
def Bi.sem : Bi → OpL
  | .len => oLen
  | .int => oInt
  | .tuple => oTuple
  | .list => oList
  | .all => oBools fun bs => bs.all id
  | .any => oBools fun bs => bs.any id
  | .sum => oSum
  | .max => oTwo max2
  | .min => oTwo min2
  | .repr => oRepr
  | .str => oStr
  | .lenset => oLenSet
  | .sset => oSortSet
mutual
inductive ME where
  | dat (x : PyData)
  | var (i : Nat)
  | neg (a : ME)
  | op (o : BOp) (a b : ME)
  | chain (o o' : BOp) (a b c : ME)
  | inv (a : ME)
  | both (a b : ME)
  | alt (a b : ME)
  | ife (t : MT) (a b : ME)
  | tup (as : MEs)
  | lst (as : MEs)
  | ix (a b : ME)
  | sl (a : ME) (lo hi : MP)
  | bi (f : Bi) (as : MEs)
  | isi (t : Ty) (a : ME)
  | cal (x : Str) (as : MEs)
  | app (o e : ME)
  | comp (own : List Nat) (tg : Tg) (it : MI) (cond : MT) (elt : ME)
  | compo (own : List Nat) (tg : Tg) (i : Nat) (cond : MT) (elt : ME)
inductive MEs where
  | nil
  | cons (a : ME) (as : MEs)
  | star (a : ME) (as : MEs)
inductive MP where
  | none
  | some (a : ME)
inductive MT where
  | yes
  | tst (a : ME)
  | tru (a : ME)
  | inv (t : MT)
  | both (t u : MT)
  | alt (t u : MT)
inductive MI where
  | seq (a : ME)
  | rng1 (a : ME)
  | rng2 (a b : ME)
  | enm (a : ME)
end
mutual
/-- nothing that stands is written -/
def ME.q : ME → Bool
  | .dat _ => true
  | .var _ => true
  | .neg a => a.q
  | .op _ a b => a.q && b.q
  | .chain _ _ a b c => a.q && b.q && c.q
  | .inv a => a.q
  | .both a b => a.q && b.q
  | .alt a b => a.q && b.q
  | .ife t a b => t.q && a.q && b.q
  | .tup as => as.q
  | .lst as => as.q
  | .ix a b => a.q && b.q
  | .sl a lo hi => a.q && lo.q && hi.q
  | .bi _ as => as.q
  | .isi _ a => a.q
  | .cal _ _ => false
  | .app _ _ => false
  | .comp _ _ it c e => it.q && c.q && e.q
  | .compo _ _ _ c e => c.q && e.q
def MEs.q : MEs → Bool
  | .nil => true
  | .cons a as => a.q && as.q
  | .star a as => a.q && as.q
def MP.q : MP → Bool
  | .none => true
  | .some a => a.q
def MT.q : MT → Bool
  | .yes => true
  | .tst a => a.q
  | .tru a => a.q
  | .inv t => t.q
  | .both t u => t.q && u.q
  | .alt t u => t.q && u.q
def MI.q : MI → Bool
  | .seq a => a.q
  | .rng1 a => a.q && true
  | .rng2 a b => a.q && (b.q && true)
  | .enm a => a.q
end
mutual
/-- the slot is read -/
def ME.uses (i : Nat) : ME → Bool
  | .dat _ => false
  | .var j => j == i
  | .neg a => a.uses i
  | .op _ a b => a.uses i || b.uses i
  | .chain _ _ a b c => a.uses i || b.uses i || c.uses i
  | .inv a => a.uses i
  | .both a b => a.uses i || b.uses i
  | .alt a b => a.uses i || b.uses i
  | .ife t a b => t.uses i || a.uses i || b.uses i
  | .tup as => as.uses i
  | .lst as => as.uses i
  | .ix a b => a.uses i || b.uses i
  | .sl a lo hi => a.uses i || lo.uses i || hi.uses i
  | .bi _ as => as.uses i
  | .isi _ a => a.uses i
  | .cal _ as => as.uses i
  | .app o e => o.uses i || e.uses i
  | .comp own _ it c e => own.contains i || it.uses i || c.uses i || e.uses i
  | .compo own _ j c e => own.contains i || j == i || c.uses i || e.uses i
def MEs.uses (i : Nat) : MEs → Bool
  | .nil => false
  | .cons a as => a.uses i || as.uses i
  | .star a as => a.uses i || as.uses i
def MP.uses (i : Nat) : MP → Bool
  | .none => false
  | .some a => a.uses i
def MT.uses (i : Nat) : MT → Bool
  | .yes => false
  | .tst a => a.uses i
  | .tru a => a.uses i
  | .inv t => t.uses i
  | .both t u => t.uses i || u.uses i
  | .alt t u => t.uses i || u.uses i
def MI.uses (i : Nat) : MI → Bool
  | .seq a => a.uses i
  | .rng1 a => a.uses i
  | .rng2 a b => a.uses i || b.uses i
  | .enm a => a.uses i
end
def MT.isYes : MT → Bool
  | .yes => true
  | _ => false
def fNeg (f : Ev) : Ev := fun env => do
  let (r, e1) ← f env
  match r with
  | .w (.d (.int i)) => pure (.w (.d (.int (-i))), e1)
  | _ => .fail
section
variable (cal : Str → Call)
mutual
def ME.den : ME → Ev
  | .dat x => fD x
  | .var i => fVar i
  | .neg a => fNeg a.den
  | .op o a b => f2 o.sem a.den b.den b.q
  | .chain o o' a b c => fChain o.sem o'.sem a.den b.den c.den b.q c.q
  | .inv a => fNot a.den
  | .both a b => fAnd a.den b.den
  | .alt a b => fOr a.den b.den
  | .ife t a b => fIf t.den a.den b.den
  | .tup as => fTup as.denFz
  | .lst as => fLst as.denFz
  | .ix a b => fW2 dIx a.den b.den b.q
  | .sl a lo hi => fSl a.den lo.den hi.den lo.q hi.q
  | .bi f as => fCall f.sem as.den
  | .isi t a => fIs t a.den
  | .cal x as => fDef (cal x) as.den
  | .app o e => fApp o.den e.den
  | .comp own tg it c e => fComp own (Tg.put (fun _ => true) tg) it.den c.den e.den
  | .compo own tg i c e => fCompV own (Tg.put (fun _ => true) tg) i c.den e.den
def MEs.den : MEs → Es
  | .nil => fNil
  | .cons a as => fCons a.den as.den as.q
  | .star a as => fStarred a.den as.den
/-- the items of a display -/
def MEs.denFz : MEs → Es
  | .nil => fNil
  | .cons a as => fCons (fFrz a.den) as.denFz as.q
  | .star a as => fStarred a.den as.denFz
def MP.den : MP → Pv
  | .none => fNoPart
  | .some a => fPart a.den
def MT.den : MT → Tv
  | .yes => tvYes
  | .tst a => fTest a.den
  | .tru a => fTruth a.den
  | .inv t => fNotT t.den
  | .both t u => fAndT t.den u.den
  | .alt t u => fOrT t.den u.den
def MI.den : MI → Sv
  | .seq a => vPlain a.den
  | .rng1 a => vRange1 (fCons a.den fNil true)
  | .rng2 a b => vRange2 (fCons a.den (fCons b.den fNil true) (b.q && true))
  | .enm a => vEnumA a.den
end
end
/-! ### statements -/
mutual
inductive MSt where
  | pass | brk | cnt
  | expr (e : ME)
  | ret (e : ME) | retN
  | set (i : Nat) (e : ME)
  | asg (t : Tg) (e : ME)
  | par (is : List Nat) (es : MEs)
  | parT (is : List Nat) (es : MEs)
  | store (o i e : ME)
  | ife (t : MT) (a b : MSts)
  | loop (tg : Tg) (it : MI) (b : MSts)
  | whl (t : MT) (b : MSts) (n : Nat)
  | never
inductive MSts where
  | nil
  | cons (s : MSt) (r : MSts)
end
def MEs.tk : MEs → MEs := id
def xParT (ok : Okk) (is : List Nat) (g : Es) : Ex := fun env => do
  let (rs, e1) ← g env
  need (decide (rs.length ≤ SZ))
  let e2 ← setSlots ok is rs e1
  pure (.nx, e2)
section
variable (cal : Str → Call) (ok : Okk)
/-- the items of a parallel assignment: each its own -/
def MEs.denTk : MEs → Es
  | .nil => fNil
  | .cons a as => fCons (fTk (a.den cal)) as.denTk as.q
  | .star _ _ => fun _ => .fail
mutual
def MSt.den : MSt → Ex
  | .pass => xPass
  | .brk => fun env => .ok (.brk, env)
  | .cnt => fun env => .ok (.cnt, env)
  | .expr e => xExpr (e.den cal)
  | .ret e => xRet ok (e.den cal)
  | .retN => fun env => .ok (.ret (.w (.d .none)), env)
  | .set i e => xSet ok i (e.den cal)
  | .asg t e => xAsg ok t (e.den cal)
  | .par is es => xPars ok is (es.denTk cal)
  | .parT is es => xParT ok is (es.denTk cal)
  | .store o i e => xStore (o.den cal) (i.den cal) (e.den cal) i.q
  | .ife t a b => xIf (t.den cal) a.den b.den
  | .loop tg it b => xFor (Tg.put ok tg) (it.den cal) b.den
  | .whl t b n => whileL (t.den cal) b.den n
  | .never => fun _ => .fail
def MSts.den : MSts → Ex
  | .nil => xPass
  | .cons s r => xSeq s.den r.den
end
end

/-! ### reading -/
structure Ct where
  N : List Str
  sc : Scope
  fn : Str → Bool
  ok : Okk
  free : List Str
  ar : Str → Option Nat
  glb : List (Str × PyData)
def nameIx (x : Str) : List Str → Nat → Option Nat
  | [], _ => none
  | y :: ys, i => if x = y then some i else nameIx x ys (i + 1)
def bopOf : Operator → Option BOp
  | .Add => some .add
  | .Sub => some .sub
  | .Mult => some .mul
  | .Mod => some .mod
  | .FloorDiv => some .fdiv
  | .Pow => some .pow
  | _ => none
def copOf : CmpOp → Option BOp
  | .Eq => some .eq
  | .NotEq => some .ne
  | .Lt => some .lt
  | .LtE => some .le
  | .Gt => some .gt
  | .GtE => some .ge
  | .Is => some .is
  | .IsNot => some .isNot
  | .In => some .isin
  | .NotIn => some .notin
def biTab : List (Str × Bi) := [("len", .len), ("int", .int), ("tuple", .tuple), ("list", .list), ("all", .all), ("any", .any), ("sum", .sum), ("max", .max), ("min", .min), ("repr", .repr), ("str", .str)]
def tyTab : List (Str × Ty) := [("int", .int), ("bool", .bool), ("str", .str), ("tuple", .tuple), ("list", .list)]
def Ct.vis (c : Ct) (x : Str) : Bool := match c.sc.names.lookup x with
  | some .local => true
  | some .cell => true
  | some .free => true
  | _ => false
def Ct.gl (c : Ct) (x : Str) : Bool := decide (c.sc.names.lookup x = some .globalImplicit)
/-- a free built-in name -/
def Ct.bl (c : Ct) (x : Str) : Bool := c.gl x && c.free.contains x
def dbgN (x : Str) : Bool := x == ("__debug__" : Str)
def cdN (x : Str) : Bool := x == ("__classdict__" : Str)
def constOf : Const → Option PyData
  | .int i => some (.int i)
  | .bool b => some (.bool b)
  | .none => some .none
  | .str x => some (.str x)
  | _ => none
def Ct.name (c : Ct) (x : Str) : Option ME :=
  if dbgN x || cdN x then none
  else if c.vis x then (nameIx x c.N 0).map .var
  else if c.gl x then (c.glb.lookup x).map .dat
  else none
def argsW (f : Expr → Option ME) : List Expr → Option MEs
  | [] => some .nil
  | .Starred e _ :: es => do
    let a ← f e
    let as ← argsW f es
    pure (.star a as)
  | e :: es => do
    let a ← f e
    let as ← argsW f es
    pure (.cons a as)
def partW (f : Expr → Option ME) : Option Expr → Option MP
  | none => some .none
  | some e => (f e).map .some
/-- a target: what it fills, and what it is -/
def Ct.loc (c : Ct) (x : Str) : Option Nat := match c.sc.names.lookup x with
  | some .local => nameIx x c.N 0
  | some .cell => if c.fn x then nameIx x c.N 0 else none
  | _ => none
def tgN (c : Ct) : Expr → Option Tg
  | .Name x _ => (c.loc x).map .name
  | _ => none
def tgW (f : Expr → Option Tg) : List Expr → Option (List Tg)
  | [] => some []
  | e :: es => do
    let a ← f e
    let as ← tgW f es
    pure (a :: as)
def tgC (c : Ct) : Nat → Expr → Option Tg
  | 0, _ => none
  | _ + 1, .Name x _ => (c.loc x).map .name
  | n + 1, .Tuple es _ _ => (tgW (tgC c n) es).map .tup
  | _, _ => none
/-- within a block -/
def Ct.blk (c : Ct) (scope : Scope) : Ct := { c with sc := relS scope c.sc, fn := fun x => scope.names.lookup x == some .cell, ok := fun _ => true }
def ownOf (c : Ct) (scope : Scope) : List (Str × Nat) := scope.names.filterMap fun y => match y.2 with
  | .local => (nameIx y.1 c.N 0).map fun i => (y.1, i)
  | .cell => (nameIx y.1 c.N 0).map fun i => (y.1, i)
  | _ => none
def noSet : Expr → Bool
  | .Set .. => false
  | _ => true
/-- its truth is that of its value -/
def plainT : Expr → Bool
  | .UnaryOp .Not _ _ => false
  | .BoolOp .. => false
  | .IfExp .. => false
  | .Compare .. => false
  | _ => true
/-- len(set(a)), sorted(set(a)) -/
def setArg (f : Str) : List Expr → Option (Bi × Expr)
  | [.Call (.Name g _) [a] [] _] => if g = ("set" : Str) then (if f = ("len" : Str) then some (.lenset, a) else if f = ("sorted" : Str) then some (.sset, a) else none) else none
  | _ => none
/-- a plain name that is walked: its slot -/
def Ct.lend (c : Ct) : Expr → Option Nat
  | .Name x _ => if dbgN x || cdN x then none else if c.vis x then nameIx x c.N 0 else none
  | _ => none
def Ct.pick (c : Ct) (iter : Expr) (own : List Nat) (t : Tg) (it : MI) (cond : MT) (e : ME) : ME := match c.lend iter with
  | some i => if cond.isYes || own.contains i || cond.uses i || e.uses i then .comp own t it cond e else .compo own t i cond e
  | none => .comp own t it cond e
mutual
def cE (c : Ct) : Nat → Expr → Option ME
  | 0, _ => none
  | n + 1, e => match e with
    | .Constant k _ _ => (constOf k).map .dat
    | .Name x _ => c.name x
    | .UnaryOp .USub a _ => (cE c n a).map .neg
    | .UnaryOp .Not a _ => (cE c n a).map .inv
    | .BinOp a o b _ => do
      let o ← bopOf o
      let a ← cE c n a
      let b ← cE c n b
      pure (.op o a b)
    | .Compare a [o] [b] _ => do
      let o ← copOf o
      let a ← cE c n a
      if noSet b then
        let b ← cE c n b
        pure (.op o a b)
      else none
    | .Compare a [o, o'] [b, d] _ => do
      let o ← copOf o
      let o' ← copOf o'
      let a ← cE c n a
      let b ← cE c n b
      if noSet d then
        let d ← cE c n d
        pure (.chain o o' a b d)
      else none
    | .BoolOp _ [a] _ => cE c n a
    | .BoolOp .And (a :: b :: r) p => do
      let a ← cE c n a
      let b ← cE c n (.BoolOp .And (b :: r) p)
      pure (.both a b)
    | .BoolOp .Or (a :: b :: r) p => do
      let a ← cE c n a
      let b ← cE c n (.BoolOp .Or (b :: r) p)
      pure (.alt a b)
    | .IfExp t a b _ => do
      let t ← cT c n t
      let a ← cE c n a
      let b ← cE c n b
      pure (.ife t a b)
    | .Tuple es _ _ => (argsW (cE c n) es).map .tup
    | .List es _ => (argsW (cE c n) es).map .lst
    | .Subscript a (.Slice lo hi none _) _ => do
      let a ← cE c n a
      let lo ← partW (cE c n) lo
      let hi ← partW (cE c n) hi
      pure (.sl a lo hi)
    | .Subscript a i _ => if notSlice i then do
        let a ← cE c n a
        let i ← cE c n i
        pure (.ix a i)
      else none
    | .Call (.Name f _) as [] _ =>
      if f = ("isinstance" : Str) then (match as with
        | [a, .Name t _] => if c.bl "isinstance" && c.bl t && noStar a then do
            let t ← tyTab.lookup t
            let a ← cE c n a
            pure (.isi t a)
          else none
        | _ => none)
      else (match setArg f as with
        | some (b, a) => if c.bl f && c.bl "set" && noStar a then (cE c n a).map (fun m => .bi b (.cons m .nil)) else none
        | none => cCall c n f as)
    | .Call (.Attribute o m ap) [a] [] cp => if m = ("append" : Str) then (if notCall o && noStar a && (ap.endLine == cp.line) then do
        let o ← cE c n o
        let a ← cE c n a
        pure (.app o a)
      else none) else none
    | .ListComp elt [⟨tg, iter, ifs, 0⟩] scope _ => 
      let own := ownOf c scope
      if blkC c.N c.sc scope own && decide ((own.map (·.2)).Nodup) && noSet iter then do
        let t ← tgC (c.blk scope) 3 tg
        let it ← cI c n tg iter
        let cond ← (match ifs with
          | [] => some .yes
          | [i] => cT (c.blk scope) n i
          | _ => none)
        let e ← cE (c.blk scope) n elt
        if t.slots.all (fun j => (own.map (·.2)).contains j) then pure (c.pick iter (own.map (·.2)) t it cond e) else none
      else none
    | _ => none
def cCall (c : Ct) : Nat → Str → List Expr → Option ME
  | 0, _, _ => none
  | n + 1, f, as =>
    if dbgN f then none
    else if c.bl f && !as.isEmpty && as.all noStar then do
      let b ← biTab.lookup f
      let as ← argsW (cE c n) as
      pure (.bi b as)
    else if c.gl f && as.all noStar then (match c.ar f with
      | some k => if as.length = k then (argsW (cE c n) as).map (.cal f) else none
      | none => none)
    else none
def cT (c : Ct) : Nat → Expr → Option MT
  | 0, _ => none
  | n + 1, e => match e with
    | .UnaryOp .Not a _ => (cT c n a).map .inv
    | .BoolOp _ [a] _ => cT c n a
    | .BoolOp .And (a :: b :: r) p => do
      let a ← cT c n a
      let b ← cT c n (.BoolOp .And (b :: r) p)
      pure (.both a b)
    | .BoolOp .Or (a :: b :: r) p => do
      let a ← cT c n a
      let b ← cT c n (.BoolOp .Or (b :: r) p)
      pure (.alt a b)
    | .Compare a [o] [b] _ => do
      let o ← copOf o
      let a ← cE c n a
      if noSet b then
        let b ← cE c n b
        pure (.tst (.op o a b))
      else none
    | .Compare a [o, o'] [b, d] _ => do
      let o ← copOf o
      let o' ← copOf o'
      let a ← cE c n a
      let b ← cE c n b
      if noSet d then
        let d ← cE c n d
        pure (.tst (.chain o o' a b d))
      else none
    | e => if plainT e then (cE c n e).map .tru else none
def cI (c : Ct) : Nat → Expr → Expr → Option MI
  | 0, _, _ => none
  | n + 1, tg, e => match e with
    | .Call (.Name f _) as [] _ =>
      if f = ("range" : Str) then (match as with
        | [a] => if c.bl "range" && noStar a then (cE c n a).map .rng1 else none
        | [a, b] => if c.bl "range" && noStar a && noStar b then do
            let a ← cE c n a
            let b ← cE c n b
            pure (.rng2 a b)
          else none
        | _ => none)
      else if f = ("enumerate" : Str) then (match tg, as with
        | .Tuple _ _ _, [a] => if c.bl "enumerate" && noStar a then (cE c n a).map .enm else none
        | _, _ => none)
      else (cE c n e).map .seq
    | _ => (cE c n e).map .seq
end
end Rf
end

section
set_option Elab.async false
set_option linter.all false
set_option maxRecDepth 10000
/-! The reading of expressions is right. -/
namespace Rf
open PySem PySem.Spec PyProof.Rows L2

/-- what a body's frame gives the reader -/
structure CtOk (L : Ly) (cal : Str → Call) (k : Nat) (c : Ct) (X : Cx) : Prop where
  N : X.N = c.N
  sc : X.env.scope = c.sc
  fn : X.fn = c.fn
  calm : X.calm = true
  nd : c.N.Nodup
  K : L.K = X.K
  room : Room k X.A
  gu : X.A.guards = some []
  fre : ∀ x ∈ c.free, X.mg x = none
  cal : ∀ x np, c.ar x = some np → CalG L X.prog X.w X.K X.mg X.base k x np (cal x) ∧ ∀ ws r fs, cal x ws = .ok (r, fs) → ws.length = np
  glb : ∀ x d, c.glb.lookup x = some d → ∃ v u, X.mg x = some u ∧ RelV v u ∧ ∀ A H, Dq L.K A H v d

theorem bindO {α β : Type} {x : Option α} {f : α → Option β} {b : β} (h : (x >>= f) = some b) : ∃ a, x = some a ∧ f a = some b := Option.bind_eq_some_iff.mp h
theorem mapO {α β : Type} {x : Option α} {f : α → β} {b : β} (h : x.map f = some b) : ∃ a, x = some a ∧ f a = b := Option.map_eq_some_iff.mp h
theorem nameIx_ok {x : Str} : ∀ {l : List Str} {j i : Nat}, nameIx x l j = some i → j ≤ i ∧ l[i - j]? = some x
  | [], _, _, h => by cases h
  | y :: ys, j, i, h => by
    unfold nameIx at h
    split at h
    · rename_i e
      cases h
      exact ⟨Nat.le_refl _, by simp [e]⟩
    · obtain ⟨h1, h2⟩ := nameIx_ok h
      refine ⟨by omega, ?_⟩
      rw [show i - j = (i - (j + 1)) + 1 by omega]
      simpa using h2
theorem nameIx_at {x : Str} {l : List Str} {i : Nat} (h : nameIx x l 0 = some i) : l[i]? = some x := by simpa using (nameIx_ok h).2
theorem lookup_mem {α β : Type} [BEq α] [LawfulBEq α] {x : α} {b : β} : ∀ {l : List (α × β)}, l.lookup x = some b → (x, b) ∈ l
  | [], h => by cases h
  | (y, c) :: l, h => by
    rw [List.lookup_cons] at h
    cases e : x == y with
    | true =>
      rw [e] at h
      cases h
      rw [eq_of_beq e]
      exact List.mem_cons_self
    | false =>
      rw [e] at h
      exact List.mem_cons_of_mem _ (lookup_mem h)
section
variable {L : Ly} {cal : Str → Call} {k : Nat} {c : Ct} {X : Cx}
theorem CtOk.gl (C : CtOk L cal k c X) {x : Str} (h : c.gl x = true) : Gl X x := by
  have h' : c.sc.names.lookup x = some .globalImplicit := of_decide_eq_true h
  show X.env.scope.names.lookup x = _
  rw [C.sc]; exact h'
theorem CtOk.bl (C : CtOk L cal k c X) {x : Str} (h : c.bl x = true) : Gl X x ∧ X.mg x = none := by
  unfold Ct.bl at h
  rw [Bool.and_eq_true] at h
  exact ⟨C.gl h.1, C.fre x (by simpa using h.2)⟩
theorem CtOk.vis (C : CtOk L cal k c X) {x : Str} (h : c.vis x = true) : Vis X.env.scope x := by
  unfold Ct.vis at h
  rw [C.sc]
  split at h
  · exact .inl (by assumption)
  · exact .inr (.inl (by assumption))
  · exact .inr (.inr (by assumption))
  · cases h
theorem CtOk.loc (C : CtOk L cal k c X) {x : Str} {i : Nat} (h : c.loc x = some i) : X.N[i]? = some x ∧ Loc X.env.scope x ∧ (X.fn x = true ∨ X.env.scope.names.lookup x = some .local) := by
  unfold Ct.loc at h
  rw [C.N, C.sc, C.fn]
  split at h
  · rename_i e
    exact ⟨nameIx_at h, .inl e, .inr e⟩
  · rename_i e
    split at h
    · rename_i f
      exact ⟨nameIx_at h, .inr e, .inl f⟩
    · cases h
  · cases h
theorem CtOk.name (C : CtOk L cal k c X) {x : Str} {m : ME} {p : Pos} (h : c.name x = some m) : PE X (.Name x p) (tE L (m.den cal) m.q) := by
  unfold Ct.name at h
  split at h
  · cases h
  · rename_i hd
    have hd1 : (x == ("__debug__" : Str)) = false := by
      cases e : x == ("__debug__" : Str) with
      | false => rfl
      | true => exact absurd (by unfold dbgN; rw [e]; rfl) hd
    have hd2 : (x == ("__classdict__" : Str)) = false := by
      cases e : x == ("__classdict__" : Str) with
      | false => rfl
      | true => exact absurd (by unfold cdN; rw [e]; simp) hd
    split at h
    · rename_i hv
      obtain ⟨i, hi, rfl⟩ := mapO h
      unfold ME.den ME.q
      exact e_var (by rw [C.N]; exact nameIx_at hi) (C.vis hv) hd1 hd2
    · split at h
      · rename_i hg
        obtain ⟨d, hd, rfl⟩ := mapO h
        obtain ⟨v, u, h1, h2, h3⟩ := C.glb x d hd
        unfold ME.den ME.q
        exact e_glob (C.gl hg) h1 h2 h3 hd1
      · cases h
theorem CtOk.lend (C : CtOk L cal k c X) {e : Expr} {i : Nat} (h : c.lend e = some i) : ∃ x p, e = .Name x p ∧ X.N[i]? = some x ∧ Vis X.env.scope x ∧ (x == ("__debug__" : Str)) = false ∧ (x == ("__classdict__" : Str)) = false := by
  unfold Ct.lend at h
  split at h
  · rename_i x p
    split at h
    · cases h
    · rename_i hd
      have hd1 : (x == ("__debug__" : Str)) = false := by
        cases e : x == ("__debug__" : Str) with
        | false => rfl
        | true => exact absurd (by unfold dbgN; rw [e]; rfl) hd
      have hd2 : (x == ("__classdict__" : Str)) = false := by
        cases e : x == ("__classdict__" : Str) with
        | false => rfl
        | true => exact absurd (by unfold cdN; rw [e]; simp) hd
      split at h
      · rename_i hv
        exact ⟨x, p, rfl, by rw [C.N]; exact nameIx_at h, C.vis hv, hd1, hd2⟩
      · cases h
  · cases h
theorem const_ok {k0 : Const} {d : PyData} {j : Nat} {p : Pos} (h : constOf k0 = some d) : PE X (.Constant k0 j p) (tE L ((ME.dat d).den cal) (ME.dat d).q) := by
  unfold ME.den ME.q
  unfold constOf at h
  split at h
  · cases h; exact e_int
  · cases h; exact e_bl
  · cases h; exact e_non
  · cases h; exact e_str
  · cases h
theorem e_neg {a : Expr} {f : Ev} {q : Bool} {pos : Pos} (h : PE X a (tE L f q)) : PE X (.UnaryOp .USub a pos) (tE L (fNeg f) q) := PE.imp (pe_un un_neg h) fun σ H Q hh => by
  obtain ⟨env, B, F, m, r, env', he, kk⟩ := hh
  obtain ⟨⟨r1, e1⟩, h1, he⟩ := bind_eq he
  dsimp only at he
  split at he
  · rename_i i
    cases he
    refine tE_next (qq := q) m (Go.refl (q := true)) h1 (.inl rfl) (fun z => by cases z) id fun v1 H1 F1 T1 m1 g1 => ?_
    have d := res_d m1.res1
    cases d
    exact ⟨i, rfl, kk _ _ F1 [] (out_made m1 g1 (Same.refl _) (.d (.int _)) .nil fun _ q => by cases q)⟩
  · cases he
theorem bop_ok (hK : L.K = X.K) {o : Operator} {b : BOp} (h : bopOf o = some b) : OpR X (binaryOp o) (rD L b.sem) := by
  unfold bopOf at h
  split at h <;> cases h
  · exact op_addD hK
  · exact op_subD
  · exact op_mulD hK
  · exact op_modD
  · exact op_fdivD
  · exact op_powD
theorem cop_ok (C : CtOk L cal k c X) {o : CmpOp} {b : BOp} (h : copOf o = some b) : OpR X (compareOp o) (rD L b.sem) := by
  have hu : X.A.units + 64 < cLine := by have := C.room.un; omega
  unfold copOf at h
  split at h <;> cases h
  · exact op_eqDD C.K hu
  · exact op_neDD C.K hu
  · exact op_ltD
  · exact op_leD
  · exact op_gtD
  · exact op_geD
  · exact op_isD
  · exact op_isNotD
  · exact op_inDD C.K C.room
  · exact op_notInDD C.K C.room
theorem marks_of {op : CmpOp} {b : Expr} (h : noSet b = true) : behindInMarks op b = false := by
  cases b <;> first | rfl | cases h
theorem bi_ok (C : CtOk L cal k c X) {x : Str} {b : Bi} {e : Expr} {es : List Expr} {p pos : Pos} {g : Es} {q : Bool} (hb : c.bl x = true) (h : biTab.lookup x = some b) (hs : (e :: es).all noStar = true) (ha : PA X (e :: es) (tA L g q)) :
    PE X (.Call (.Name x p) (e :: es) [] pos) (tE L (fCall b.sem g) q) := by
  obtain ⟨hg, hm⟩ := C.bl hb
  have hu : X.A.units + 100 < cLine := by have := C.room.un; omega
  have m := lookup_mem h
  unfold biTab at m
  simp only [List.mem_cons, List.not_mem_nil, or_false, Prod.mk.injEq] at m
  rcases m with ⟨rfl, rfl⟩ | ⟨rfl, rfl⟩ | ⟨rfl, rfl⟩ | ⟨rfl, rfl⟩ | ⟨rfl, rfl⟩ | ⟨rfl, rfl⟩ | ⟨rfl, rfl⟩ | ⟨rfl, rfl⟩ | ⟨rfl, rfl⟩ | ⟨rfl, rfl⟩ | ⟨rfl, rfl⟩
  · exact e_callB (call_lenD C.K) hg hm (by decide +kernel) (by decide) (by decide) hs ha
  · exact e_callTy call_intD hg hm (by decide +kernel) (by decide) (by decide) hs ha
  · exact e_callTy (call_tupleD C.K) hg hm (by decide +kernel) (by decide) (by decide) hs ha
  · exact e_callTy (call_listD C.K) hg hm (by decide +kernel) (by decide) (by decide) hs ha
  · exact e_callB (call_allD C.calm) hg hm (by decide +kernel) (by decide) (by decide) hs ha
  · exact e_callB (call_anyD C.calm) hg hm (by decide +kernel) (by decide) (by decide) hs ha
  · exact e_callB (call_sumD C.calm) hg hm (by decide +kernel) (by decide) (by decide) hs ha
  · exact e_callB (call_two (f := max2) (call_max2 C.calm)) hg hm (by decide +kernel) (by decide) (by decide) hs ha
  · exact e_callB (call_two (f := min2) (call_min2 C.calm)) hg hm (by decide +kernel) (by decide) (by decide) hs ha
  · exact e_callB (call_reprD C.K C.gu hu) hg hm (by decide +kernel) (by decide) (by decide) hs ha
  · exact e_callTy call_strD hg hm (by decide +kernel) (by decide) (by decide) hs ha
/-- an argument list -/
theorem args_ok {f : Expr → Option ME} (hf : ∀ e m, f e = some m → PE X e (tE L (m.den cal) m.q)) (hK : L.K = X.K) : ∀ (es : List Expr) {ms : MEs}, argsW f es = some ms → PA X es (tA L (ms.den cal) ms.q)
  | [], ms, h => by
    cases h
    unfold MEs.den MEs.q
    exact a_nil
  | e :: es, ms, h => by
    by_cases hs : noStar e = true
    · have h' : ((f e) >>= fun a => (argsW f es) >>= fun as => some (MEs.cons a as)) = some ms := by
        cases e <;> first | exact h | cases hs
      obtain ⟨a, h1, h'⟩ := bindO h'
      obtain ⟨as, h2, h'⟩ := bindO h'
      cases h'
      show PA X (e :: es) (tA L (fCons (a.den cal) (as.den cal) as.q) (a.q && as.q))
      exact a_cons hs (hf e a h1) (args_ok hf hK es h2)
    · cases e with
      | Starred e p =>
        have h' : ((f e) >>= fun a => (argsW f es) >>= fun as => some (MEs.star a as)) = some ms := h
        obtain ⟨a, h1, h'⟩ := bindO h'
        obtain ⟨as, h2, h'⟩ := bindO h'
        cases h'
        show PA X (.Starred e p :: es) (tA L (fStarred (a.den cal) (as.den cal)) (a.q && as.q))
        exact a_star hK (hf e a h1) (args_ok hf hK es h2)
      | _ => exact absurd rfl hs
/-- the items of a display -/
theorem argsFz_ok {f : Expr → Option ME} (hf : ∀ e m, f e = some m → PE X e (tE L (m.den cal) m.q)) (hK : L.K = X.K) : ∀ (es : List Expr) {ms : MEs}, argsW f es = some ms → PA X es (tA L (ms.denFz cal) ms.q)
  | [], ms, h => by
    cases h
    unfold MEs.denFz MEs.q
    exact a_nil
  | e :: es, ms, h => by
    by_cases hs : noStar e = true
    · have h' : ((f e) >>= fun a => (argsW f es) >>= fun as => some (MEs.cons a as)) = some ms := by
        cases e <;> first | exact h | cases hs
      obtain ⟨a, h1, h'⟩ := bindO h'
      obtain ⟨as, h2, h'⟩ := bindO h'
      cases h'
      show PA X (e :: es) (tA L (fCons (fFrz (a.den cal)) (as.denFz cal) as.q) (a.q && as.q))
      exact a_cons hs (e_frz (hf e a h1)) (argsFz_ok hf hK es h2)
    · cases e with
      | Starred e p =>
        have h' : ((f e) >>= fun a => (argsW f es) >>= fun as => some (MEs.star a as)) = some ms := h
        obtain ⟨a, h1, h'⟩ := bindO h'
        obtain ⟨as, h2, h'⟩ := bindO h'
        cases h'
        show PA X (.Starred e p :: es) (tA L (fStarred (a.den cal) (as.denFz cal)) (a.q && as.q))
        exact a_star hK (hf e a h1) (argsFz_ok hf hK es h2)
      | _ => exact absurd rfl hs
theorem part_ok {f : Expr → Option ME} (hf : ∀ e m, f e = some m → PE X e (tE L (m.den cal) m.q)) {o : Option Expr} {m : MP} (h : partW f o = some m) : PO X o (tO L (m.den cal) m.q) := by
  cases o with
  | none =>
    cases h
    unfold MP.den MP.q
    exact o_none
  | some e =>
    obtain ⟨a, h1, rfl⟩ := mapO (show (f e).map MP.some = some m from h)
    unfold MP.den MP.q
    exact o_some (hf e a h1)
theorem each_cons {e : Expr} {es : List Expr} {env : PySem.Env} (h : noStar e = true) : assignEach (e :: es) env = (false, assign e env) :: assignEach es env := by
  cases e <;> first | rfl | cases h
theorem tgs_ok {f : Expr → Option Tg} {ok : Okk} (hf : ∀ e t, f e = some t → noStar e = true ∧ PG X e (tG L ok t.slots (Tg.put ok t))) : ∀ (es : List Expr) {ts : List Tg}, tgW f es = some ts →
    PGs X es (tGs L ok (Tg.slots.Tg.slotsL ts) (Tg.puts ok ts)) ∧ ts.length = es.length ∧ (assignEach es X.env).length = es.length ∧ (assignEach es X.env).findIdx? (·.1) = none
  | [], ts, h => by
    cases h
    exact ⟨gs_nil, rfl, rfl, rfl⟩
  | e :: es, ts, h => by
    obtain ⟨a, h1, h'⟩ := bindO (show ((f e) >>= fun a => (tgW f es) >>= fun as => some (a :: as)) = some ts from h)
    obtain ⟨as, h2, h'⟩ := bindO h'
    cases h'
    obtain ⟨hs, g1⟩ := hf e a h1
    obtain ⟨g2, l1, l2, l3⟩ := tgs_ok hf es h2
    rw [each_cons hs]
    refine ⟨gs_cons g1 g2 (by rw [each_cons hs]; rfl), by simp [l1], by simp [l2], ?_⟩
    rw [List.findIdx?_cons]
    simp [l3]
theorem tg_ok (C : CtOk L cal k c X) (ok : Okk) : ∀ (n : Nat) (e : Expr) (t : Tg), tgC c n e = some t → noStar e = true ∧ PG X e (tG L ok t.slots (Tg.put ok t))
  | 0, _, _, h => by cases h
  | n + 1, e, t, h => by
    unfold tgC at h
    split at h
    · cases ‹_ + 1 = 0›
    · rename_i x p
      obtain ⟨i, hi, rfl⟩ := mapO h
      obtain ⟨h1, h2, h3⟩ := C.loc hi
      exact ⟨rfl, g_name (by rw [C.N]; exact C.nd) h1 h2 h3⟩
    · rename_i n' es k0 p hn
      cases hn
      obtain ⟨ts, h1, rfl⟩ := mapO h
      obtain ⟨g, l1, l2, l3⟩ := tgs_ok (ok := ok) (fun e t he => tg_ok C ok n e t he) es h1
      exact ⟨rfl, g_tup C.K C.calm g l1 l2 l3⟩
    · cases h
/-- a block within the body -/
theorem CtOk.blk (C : CtOk L cal k c X) (scope : Scope) (s : Shared) (H : Hp) (Ca : Addr) (cl : List (Str × Addr)) (fp : List Addr) : CtOk L cal k (c.blk scope) (X.blk s H scope (compEnvC scope cl Ca X.env) fp) where
  N := C.N
  sc := by
    show relabel scope X.env = relS scope c.sc
    rw [← C.sc]; rfl
  fn := rfl
  calm := C.calm
  nd := C.nd
  K := C.K
  room := C.room
  gu := C.gu
  fre := C.fre
  cal := C.cal
  glb := C.glb
end
end Rf
end

section
set_option Elab.async false
set_option linter.all false
set_option maxRecDepth 10000
/-! The reading of expressions is right, the whole. -/
namespace Rf
open PySem PySem.Spec PyProof.Rows L2
section
variable {L : Ly} {cal : Str → Call} {k : Nat}
def ReadE (L : Ly) (cal : Str → Call) (k n : Nat) : Prop := ∀ (c : Ct) (X : Cx), CtOk L cal k c X → ∀ e m, cE c n e = some m → PE X e (tE L (m.den cal) m.q)
def ReadC (L : Ly) (cal : Str → Call) (k n : Nat) : Prop := ∀ (c : Ct) (X : Cx), CtOk L cal k c X → ∀ f as m, cCall c n f as = some m → ∀ p pos, PE X (.Call (.Name f p) as [] pos) (tE L (m.den cal) m.q)
def ReadT (L : Ly) (cal : Str → Call) (k n : Nat) : Prop := ∀ (c : Ct) (X : Cx), CtOk L cal k c X → ∀ e m, cT c n e = some m → PT X e (tT L (m.den cal) m.q) ∧ ∀ op vs p, e = .BoolOp op vs p → PW X e (tT L (m.den cal) m.q)
def ReadI (L : Ly) (cal : Str → Call) (k n : Nat) : Prop := ∀ (c : Ct) (X : Cx), CtOk L cal k c X → ∀ tg e m, noSet e = true → cI c n tg e = some m → PI X tg e (tI L (m.den cal) m.q)
theorem fold_of {e : Expr} {env : PySem.Env} (h : noSet e = true) (x : Value) : foldedSetIterable e env x = pure x := by
  cases e <;> first | rfl | cases h
theorem ty_ok {x : Str} {t : Ty} (h : tyTab.lookup x = some t) : x = (t.name : Str) := by
  have m := lookup_mem h
  unfold tyTab at m
  simp only [List.mem_cons, List.not_mem_nil, or_false, Prod.mk.injEq] at m
  rcases m with ⟨rfl, rfl⟩ | ⟨rfl, rfl⟩ | ⟨rfl, rfl⟩ | ⟨rfl, rfl⟩ | ⟨rfl, rfl⟩ <;> rfl
theorem setArg_ok {f : Str} {as : List Expr} {b : Bi} {a : Expr} (h : setArg f as = some (b, a)) : ∃ p q, as = [.Call (.Name "set" p) [a] [] q] ∧ ((f = ("len" : Str) ∧ b = .lenset) ∨ (f = ("sorted" : Str) ∧ b = .sset)) := by
  unfold setArg at h
  split at h
  · rename_i g p a' q
    split at h
    · rename_i hg
      subst hg
      split at h
      · rename_i hf
        cases h
        exact ⟨p, q, rfl, .inl ⟨hf, rfl⟩⟩
      · split at h
        · rename_i hf
          cases h
          exact ⟨p, q, rfl, .inr ⟨hf, rfl⟩⟩
        · cases h
    · cases h
  · cases h
theorem own_ix {c : Ct} {scope : Scope} : True := trivial
theorem readE {n : Nat} (hE : ReadE L cal k n) (hC : ReadC L cal k n) (hT : ReadT L cal k n) (hI : ReadI L cal k n) : ReadE L cal k (n + 1) := by
  intro c X C e m h
  have hE' := hE c X C
  unfold cE at h
  split at h
  · obtain ⟨d, hd, rfl⟩ := mapO h
    exact const_ok hd
  · exact C.name h
  · obtain ⟨a, ha, rfl⟩ := mapO h
    exact e_neg (hE' _ _ ha)
  · obtain ⟨a, ha, rfl⟩ := mapO h
    exact e_not (hE' _ _ ha)
  · obtain ⟨o, ho, h⟩ := bindO h
    obtain ⟨a, ha, h⟩ := bindO h
    obtain ⟨b, hb, h⟩ := bindO h
    cases h
    exact e_bin (bop_ok C.K ho) (hE' _ _ ha) (hE' _ _ hb)
  · obtain ⟨o, ho, h⟩ := bindO h
    obtain ⟨a, ha, h⟩ := bindO h
    split at h
    · rename_i hs
      obtain ⟨b, hb, h⟩ := bindO h
      cases h
      exact e_cmp (cop_ok C ho) (hE' _ _ ha) (hE' _ _ hb) (marks_of hs)
    · cases h
  · obtain ⟨o, ho, h⟩ := bindO h
    obtain ⟨o', ho', h⟩ := bindO h
    obtain ⟨a, ha, h⟩ := bindO h
    obtain ⟨b, hb, h⟩ := bindO h
    split at h
    · rename_i hs
      obtain ⟨d, hd, h⟩ := bindO h
      cases h
      exact e_chain (cop_ok C ho) (cop_ok C ho') (hE' _ _ ha) (hE' _ _ hb) (hE' _ _ hd) (marks_of hs)
    · cases h
  · exact e_one (L := L) (hE' _ _ h)
  · obtain ⟨a, ha, h⟩ := bindO h
    obtain ⟨b, hb, h⟩ := bindO h
    cases h
    exact e_and (hE' _ _ ha) (hE' _ _ hb)
  · obtain ⟨a, ha, h⟩ := bindO h
    obtain ⟨b, hb, h⟩ := bindO h
    cases h
    exact e_or (hE' _ _ ha) (hE' _ _ hb)
  · obtain ⟨t, ht, h⟩ := bindO h
    obtain ⟨a, ha, h⟩ := bindO h
    obtain ⟨b, hb, h⟩ := bindO h
    cases h
    exact e_if (hT c X C _ _ ht).1 (hE' _ _ ha) (hE' _ _ hb)
  · obtain ⟨as, ha, rfl⟩ := mapO h
    exact e_tup (argsFz_ok hE' C.K _ ha)
  · obtain ⟨as, ha, rfl⟩ := mapO h
    exact e_lst (argsFz_ok hE' C.K _ ha)
  · obtain ⟨a, ha, h⟩ := bindO h
    obtain ⟨lo, hl, h⟩ := bindO h
    obtain ⟨hi, hh, h⟩ := bindO h
    cases h
    exact e_slice C.K (hE' _ _ ha) (part_ok hE' hl) (part_ok hE' hh)
  · split at h
    · rename_i hs
      obtain ⟨a, ha, h⟩ := bindO h
      obtain ⟨i, hi, h⟩ := bindO h
      cases h
      exact e_ix (ix_D C.K) (hE' _ _ ha) (hE' _ _ hi) (ix_of hs)
    · cases h
  · split at h
    · rename_i hf
      subst hf
      split at h
      · split at h
        · rename_i hb
          simp only [Bool.and_eq_true] at hb
          obtain ⟨⟨b1, b2⟩, b3⟩ := hb
          obtain ⟨t, ht, h⟩ := bindO h
          obtain ⟨a, ha, h⟩ := bindO h
          cases h
          have e := ty_ok ht
          subst e
          exact e_is C.K (C.bl b1).1 (C.bl b1).2 (C.bl b2).1 (C.bl b2).2 b3 (hE' _ _ ha)
        · cases h
      · cases h
    · split at h
      · rename_i b a hsa
        split at h
        · rename_i hb
          simp only [Bool.and_eq_true] at hb
          obtain ⟨⟨b1, b2⟩, b3⟩ := hb
          obtain ⟨m', hm', rfl⟩ := mapO h
          have hu : X.A.units + 8 < cLine := by have := C.room.un; omega
          obtain ⟨p1, q1, rfl, ⟨rfl, rfl⟩ | ⟨rfl, rfl⟩⟩ := setArg_ok hsa
          · show PE X _ (tE L (fCall oLenSet (fCons (m'.den cal) fNil true)) (m'.q && true))
            rw [Bool.and_true]
            exact e_lenSet C.K (C.bl b1).1 (C.bl b1).2 (C.bl b2).1 (C.bl b2).2 C.calm b3 (hE' _ _ hm')
          · show PE X _ (tE L (fCall oSortSet (fCons (m'.den cal) fNil true)) (m'.q && true))
            rw [Bool.and_true]
            exact e_sortSet C.K (C.bl b1).1 (C.bl b1).2 (C.bl b2).1 (C.bl b2).2 C.calm hu b3 (hE' _ _ hm')
        · cases h
      · exact hC c X C _ _ _ h _ _
  · split at h
    · rename_i hm
      subst hm
      split at h
      · rename_i hb
        simp only [Bool.and_eq_true] at hb
        obtain ⟨⟨b1, b2⟩, b3⟩ := hb
        obtain ⟨o, ho, h⟩ := bindO h
        obtain ⟨a, ha, h⟩ := bindO h
        cases h
        exact e_app b1 b2 b3 (hE' _ _ ho) (hE' _ _ ha)
      · cases h
    · cases h
  · rename_i elt0 tg0 iter0 ifs0 scope0 pos0
    dsimp only at h
    split at h
    · rename_i hb
      simp only [Bool.and_eq_true, decide_eq_true_eq] at hb
      obtain ⟨⟨b1, b2⟩, b3⟩ := hb
      obtain ⟨t, ht, h⟩ := bindO h
      obtain ⟨it, hit, h⟩ := bindO h
      obtain ⟨cond, hc, h⟩ := bindO h
      obtain ⟨e1, he, h⟩ := bindO h
      split at h
      · rename_i hl
        cases h
        have bok := blkOk_by b1
        rw [← C.N, ← C.sc] at bok
        have old : ∀ lp, PE X (.ListComp elt0 [⟨tg0, iter0, ifs0, 0⟩] scope0 lp) (tE L ((ME.comp ((ownOf c scope0).map (·.2)) t it cond e1).den cal) (ME.comp ((ownOf c scope0).map (·.2)) t it cond e1).q) := fun lp => by
          refine e_comp (ok := fun _ => true) (l := t.slots) C.calm (by rw [C.N]; exact C.nd) b2 (fun j hj => by simpa using List.all_eq_true.mp hl j hj) (hI c X C _ _ _ b3 hit) bok (fun s H Ca cl fp => (tg_ok (C.blk _ s H Ca cl fp) _ _ _ _ ht).2) (fun s H Ca cl fp => ?_) (fun s H Ca cl fp => hE _ _ (C.blk _ s H Ca cl fp) _ _ he) (fold_of b3)
          split at hc
          · cases hc
            exact ts_nil
          · exact pts_one (hT _ _ (C.blk _ s H Ca cl fp) _ _ hc).1
          · cases hc
        unfold Ct.pick
        split
        · rename_i i hi
          split
          · exact old _
          · obtain ⟨x, xp, rfl, hx, hv, hd1, hd2⟩ := C.lend hi
            refine e_compV (ok := fun _ => true) (l := t.slots) (x := x) C.K C.calm (by rw [C.N]; exact C.nd) b2 (fun j hj => by simpa using List.all_eq_true.mp hl j hj) hx hv hd1 hd2 bok (fun s H Ca cl fp => (tg_ok (C.blk _ s H Ca cl fp) _ _ _ _ ht).2) (fun s H Ca cl fp => ?_) (fun s H Ca cl fp => hE _ _ (C.blk _ s H Ca cl fp) _ _ he) (fold_of b3)
            split at hc
            · cases hc
              exact ts_nil
            · exact pts_one (hT _ _ (C.blk _ s H Ca cl fp) _ _ hc).1
            · cases hc
        · exact old _
      · cases h
    · cases h
  · cases h
theorem readC {n : Nat} (hE : ReadE L cal k n) : ReadC L cal k (n + 1) := by
  intro c X C f as m h p pos
  have hE' := hE c X C
  unfold cCall at h
  split at h
  · cases h
  · rename_i hd
    have hd1 : (f == ("__debug__" : Str)) = false := by
      cases e : f == ("__debug__" : Str) with
      | false => rfl
      | true => exact absurd e hd
    split at h
    · rename_i hb
      simp only [Bool.and_eq_true, Bool.not_eq_true'] at hb
      obtain ⟨⟨b1, b2⟩, b3⟩ := hb
      obtain ⟨b, hb, h⟩ := bindO h
      obtain ⟨ms, ha, h⟩ := bindO h
      cases h
      cases as with
      | nil => cases b2
      | cons e es => exact bi_ok C b1 hb b3 (args_ok hE' C.K _ ha)
    · split at h
      · rename_i hb
        simp only [Bool.and_eq_true] at hb
        obtain ⟨b1, b2⟩ := hb
        split at h
        · rename_i np hnp
          split at h
          · rename_i hl
            obtain ⟨ms, ha, rfl⟩ := mapO h
            obtain ⟨q1, q2⟩ := C.cal f np hnp
            cases as with
            | nil =>
              cases ha
              have hl' : 0 = np := hl
              subst hl'
              exact e_def0 q1 C.room C.gu (C.gl b1) q2 hd1
            | cons e es => exact e_def q1 C.room C.gu (C.gl b1) q2 hd1 b2 (args_ok hE' C.K _ ha)
          · cases h
        · cases h
      · cases h
theorem truth_of {X : Cx} {a : Expr} (h : plainT a = true) : ∀ whole, isTrue a X.env whole = (do let v ← whole; standAt a.pos; holding [v] (truthy v)) := by
  cases a with
  | UnaryOp op a p => cases op <;> first | exact fun _ => rfl | cases h
  | _ => first | exact fun _ => rfl | cases h
theorem readT {n : Nat} (hE : ReadE L cal k n) (hT : ReadT L cal k n) : ReadT L cal k (n + 1) := by
  intro c X C e m h
  have hE' := hE c X C
  have hT' := hT c X C
  unfold cT at h
  split at h
  · obtain ⟨a, ha, rfl⟩ := mapO h
    exact ⟨c_not (hT' _ _ ha).1, fun _ _ _ z => by cases z⟩
  · have w : ∀ op pos, PW X (.BoolOp op [_] pos) (tT L (m.den cal) m.q) := fun op pos => w_one (hT' _ _ h).1
    exact ⟨PW.pt (w _ _), fun _ _ _ _ => w _ _⟩
  · obtain ⟨a, ha, h⟩ := bindO h
    obtain ⟨b, hb, h⟩ := bindO h
    cases h
    have w := w_and (hT' _ _ ha).1 ((hT' _ _ hb).2 _ _ _ rfl)
    exact ⟨PW.pt w, fun _ _ _ _ => w⟩
  · obtain ⟨a, ha, h⟩ := bindO h
    obtain ⟨b, hb, h⟩ := bindO h
    cases h
    have w := w_or (hT' _ _ ha).1 ((hT' _ _ hb).2 _ _ _ rfl)
    exact ⟨PW.pt w, fun _ _ _ _ => w⟩
  · obtain ⟨o, ho, h⟩ := bindO h
    obtain ⟨a, ha, h⟩ := bindO h
    split at h
    · rename_i hs
      obtain ⟨b, hb, h⟩ := bindO h
      cases h
      exact ⟨c_cmp (cop_ok C ho) (hE' _ _ ha) (hE' _ _ hb) (marks_of hs), fun _ _ _ z => by cases z⟩
    · cases h
  · obtain ⟨o, ho, h⟩ := bindO h
    obtain ⟨o', ho', h⟩ := bindO h
    obtain ⟨a, ha, h⟩ := bindO h
    obtain ⟨b, hb, h⟩ := bindO h
    split at h
    · rename_i hs
      obtain ⟨d, hd, h⟩ := bindO h
      cases h
      exact ⟨c_chain (cop_ok C ho) (cop_ok C ho') (hE' _ _ ha) (hE' _ _ hb) (hE' _ _ hd) (marks_of hs), fun _ _ _ z => by cases z⟩
    · cases h
  · split at h
    · rename_i hp
      obtain ⟨a, ha, rfl⟩ := mapO h
      exact ⟨c_truth C.K (hE' _ _ ha) (truth_of hp), fun _ _ _ z => by subst z; cases hp⟩
    · cases h
theorem readI {n : Nat} (hE : ReadE L cal k n) : ReadI L cal k (n + 1) := by
  intro c X C tg e m hns h
  have hE' := hE c X C
  unfold cI at h
  split at h
  · split at h
    · rename_i hf
      subst hf
      split at h
      · split at h
        · rename_i hb
          simp only [Bool.and_eq_true] at hb
          obtain ⟨b1, b2⟩ := hb
          obtain ⟨a, ha, rfl⟩ := mapO h
          exact i_range1 (C.bl b1).1 (C.bl b1).2 b2 (a_cons b2 (hE' _ _ ha) a_nil)
        · cases h
      · split at h
        · rename_i hb
          simp only [Bool.and_eq_true] at hb
          obtain ⟨⟨b1, b2⟩, b3⟩ := hb
          obtain ⟨a, ha, h⟩ := bindO h
          obtain ⟨b, hb, h⟩ := bindO h
          cases h
          exact i_range2 (C.bl b1).1 (C.bl b1).2 b2 b3 (a_cons b2 (hE' _ _ ha) (a_cons b3 (hE' _ _ hb) a_nil))
        · cases h
      · cases h
    · split at h
      · rename_i hf
        subst hf
        split at h
        · split at h
          · rename_i hb
            simp only [Bool.and_eq_true] at hb
            obtain ⟨b1, b2⟩ := hb
            obtain ⟨a, ha, rfl⟩ := mapO h
            exact i_enumA C.K (C.bl b1).1 (C.bl b1).2 b2 (hE' _ _ ha)
          · cases h
        · cases h
      · obtain ⟨a, ha, rfl⟩ := mapO h
        exact i_plain C.K (hE' _ _ ha)
  · obtain ⟨a, ha, rfl⟩ := mapO h
    exact i_plain C.K (hE' _ _ ha)
theorem read_all : ∀ n : Nat, ReadE L cal k n ∧ ReadC L cal k n ∧ ReadT L cal k n ∧ ReadI L cal k n
  | 0 => by
    refine ⟨?_, ?_, ?_, ?_⟩
    · intro c X C e m h
      cases e <;> (unfold cE at h; cases h)
    · intro c X C f as m h
      unfold cCall at h
      cases h
    · intro c X C e m h
      cases e <;> (unfold cT at h; cases h)
    · intro c X C tg e m _ h
      unfold cI at h
      cases h
  | n + 1 =>
    have h := read_all n
    ⟨readE h.1 h.2.1 h.2.2.1 h.2.2.2, readC h.1, readT h.1 h.2.2.1, readI h.1⟩
end
end Rf
end

section
set_option Elab.async false
set_option linter.all false
set_option maxRecDepth 10000
/-! The reading of statements. -/
namespace Rf
open PySem PySem.Spec PyProof.Rows L2
def noComp : Expr → Bool
  | .ListComp .. => false
  | .SetComp .. => false
  | .DictComp .. => false
  | _ => true
/-- two, three names at once that the compiler swaps -/
def parC (c : Ct) (ts vs : List Expr) : Option (List (Str × Nat)) :=
  if decide (c.sc.kind = .function) && vs.all noStar && !(vs.all (foldedForSure 8)) && !(vs.all (constantsAlone 8)) then
    match ts, vs with
    | [.Name x px, .Name y py], [_, _] => if decide (c.sc.names.lookup x = some .local) && decide (c.sc.names.lookup y = some .local) && decide (py.line = px.line) && decide (x ≠ y) then (match nameIx x c.N 0, nameIx y c.N 0 with
      | some i, some j => some [(x, i), (y, j)]
      | _, _ => none) else none
    | [.Name x px, .Name y py, .Name z pz], [_, _, _] => if decide (c.sc.names.lookup x = some .local) && decide (c.sc.names.lookup y = some .local) && decide (c.sc.names.lookup z = some .local) && decide (py.line = px.line) && decide (pz.line = px.line) && decide (x ≠ y) && decide (x ≠ z) && decide (y ≠ z) then (match nameIx x c.N 0, nameIx y c.N 0, nameIx z c.N 0 with
      | some i, some j, some l => some [(x, i), (y, j), (z, l)]
      | _, _, _ => none) else none
    | _, _ => none
  else none
theorem kind_fn {env : PySem.Env} (h : env.scope.kind = .function) : env.blockKind = .function := by
  unfold Env.blockKind
  rw [h]; rfl
theorem noStars {vs : List Expr} (h : vs.all noStar = true) : (vs.any fun | .Starred .. => true | _ => false) = false := by
  rw [List.any_eq_false]
  intro e he
  have := List.all_eq_true.mp h e he
  cases e <;> simp_all [noStar]
theorem dup1 {y : Str} : [y].eraseDups = [y] := by
  rw [List.eraseDups_cons]; simp
theorem noStar1 {a : Expr} (h : noStar a = true) : (match a with | .Starred .. => true | _ => false) = false := by
  cases a <;> first | rfl | cases h
theorem swap2 {env : PySem.Env} {x y : Str} {px py pt : Pos} {kt k2 : Nat} {pt2 : Pos} {a b : Expr} (hk : env.scope.kind = .function) (hx : env.scope.names.lookup x = some .local) (hy : env.scope.names.lookup y = some .local) (hl : py.line = px.line) (hxy : x ≠ y)
    (hs : [a, b].all noStar = true) (h1 : [a, b].all (foldedForSure 8) = false) (h2 : [a, b].all (constantsAlone 8) = false) :
    swappedStores [.Tuple [.Name x px, .Name y py] kt pt] (.Tuple [a, b] k2 pt2) env = pure (some [x, y]) := by
  have hs' := noStars hs
  simp only [List.all_cons, List.all_nil, Bool.and_true, Bool.and_eq_true] at hs
  have ex : env.kindOf x = some .local := hx
  have ey : env.kindOf y = some .local := hy
  have e1 : (Expr.Name x px).pos = px := rfl
  have e2 : ([x, y].eraseDups) = [x, y] := by
    rw [List.eraseDups_cons]
    simp [hxy, Ne.symm hxy, dup1]
  unfold swappedStores
  simp only [kind_fn hk, hs', h1, h2]
  simp [ex, ey, e1, hl, e2]
  obtain ⟨sa, sb⟩ := hs
  intro z
  exfalso
  rcases z with z | z
  · cases a <;> first | (cases sa; done) | (cases z; done)
  · cases b <;> first | (cases sb; done) | (cases z; done)
theorem swap3 {env : PySem.Env} {x y z : Str} {px py pz pt : Pos} {kt k2 : Nat} {pt2 : Pos} {a b d : Expr} (hk : env.scope.kind = .function) (hx : env.scope.names.lookup x = some .local) (hy : env.scope.names.lookup y = some .local) (hz : env.scope.names.lookup z = some .local) (hl : py.line = px.line) (hl2 : pz.line = px.line) (hxy : x ≠ y) (hxz : x ≠ z) (hyz : y ≠ z)
    (hs : [a, b, d].all noStar = true) (h1 : [a, b, d].all (foldedForSure 8) = false) (h2 : [a, b, d].all (constantsAlone 8) = false) :
    swappedStores [.Tuple [.Name x px, .Name y py, .Name z pz] kt pt] (.Tuple [a, b, d] k2 pt2) env = pure (some [x, y, z]) := by
  have hs' := noStars hs
  simp only [List.all_cons, List.all_nil, Bool.and_true, Bool.and_eq_true] at hs
  have ex : env.kindOf x = some .local := hx
  have ey : env.kindOf y = some .local := hy
  have ez : env.kindOf z = some .local := hz
  have e1 : (Expr.Name x px).pos = px := rfl
  have e2 : ([x, y, z].eraseDups) = [x, y, z] := by
    rw [List.eraseDups_cons]
    simp [hxy, Ne.symm hxy, hxz, Ne.symm hxz]
    rw [List.eraseDups_cons]
    simp [hyz, Ne.symm hyz, dup1]
  unfold swappedStores
  simp only [kind_fn hk, hs', h1, h2]
  simp [ex, ey, ez, e1, hl, hl2, e2]
  obtain ⟨sa, sb, sd⟩ := hs
  intro z
  exfalso
  rcases z with z | z | z
  · cases a <;> first | (cases sa; done) | (cases z; done)
  · cases b <;> first | (cases sb; done) | (cases z; done)
  · cases d <;> first | (cases sd; done) | (cases z; done)
/-- no swap -/
def noSwap (tg e : Expr) : Bool := match tg with
  | .Tuple _ _ _ => (match e with
    | .Tuple vs _ _ => vs.all (foldedForSure 8) || decide (3 < vs.length)
    | _ => true)
  | .List _ _ => false
  | _ => true
theorem swap_none {env : PySem.Env} {tg e : Expr} (h : noSwap tg e = true) : swappedStores [tg] e env = pure none := by
  unfold noSwap at h
  split at h
  · split at h
    · rename_i ts _ _ _ vs _ _
      rcases Bool.or_eq_true _ _ |>.mp h with h | h
      · unfold swappedStores
        simp only [h]
        simp
      · have h := of_decide_eq_true h
        unfold swappedStores
        simp only
        by_cases e1 : (!(ts.length == 2 || ts.length == 3) || vs.length != ts.length || env.blockKind != ScopeKind.function) = true
        · rw [if_pos e1]
        · exfalso
          apply e1
          simp only [Bool.or_eq_true, bne_iff_ne, Bool.not_eq_true', beq_iff_eq, Bool.or_eq_false_iff, beq_eq_false_iff_ne]
          by_cases e2 : ts.length = 2
          · left; right; omega
          · by_cases e3 : ts.length = 3
            · left; right; omega
            · left; left; exact ⟨e2, e3⟩
    · rename_i hn
      unfold swappedStores
      cases e <;> first | rfl | exact absurd rfl (hn _ _ _)
  · cases h
  · rename_i h1 h2
    unfold swappedStores
    cases tg <;> first | rfl | exact absurd rfl (h1 _ _ _) | exact absurd rfl (h2 _ _)
end Rf
end

section
set_option Elab.async false
set_option linter.all false
set_option maxRecDepth 10000
/-! Several names at once, some of them captured: a tuple is made and taken apart. -/
namespace Rf
open PySem PySem.Spec PyProof.Rows L2
section
variable {L : Ly} {B : AS} {env : Env} {σ : St} {H H' : Hp} {F T : List Addr} {rs : List R} {vs : List V}
theorem RRs.length {A : AS} : ∀ {rs : List R} {vs : List V} {T : List Addr}, RRs L A H σ rs vs T → rs.length = vs.length
  | _, _, _, .nil => rfl
  | _, _, _, .cons _ t => by simp [RRs.length t]
/-- something was laid beside -/
theorem MS.beside (m : MS L B env σ H F rs vs T) (hs : Same H H') : MS L B env σ H' F rs vs T where
  env := m.env.step (stp_of hs) (fun _ h => h.elim) (fun b h => .inl h) (fun _ _ h => h)
  res := m.res.step (stp_of hs) (fun _ h => h.elim) (fun b h => .inl h) (fun _ _ h => h) (.inr fun _ h => h)
  nd := m.nd
  dj := m.dj
  al := fun b h => by rw [(stp_of hs).there (fun h => h) (m.al b h)]; exact m.al b h
end
/-- the names of a display of targets -/
def namesC (c : Ct) : List Expr → Option (List Nat)
  | [] => some []
  | .Name x _ :: es => match c.loc x, namesC c es with
    | some i, some is => some (i :: is)
    | _, _ => none
  | _ => none
def gNames (is : List Nat) : TGs := fun vs σ H Q => vs.length = is.length ∧ Q (setsV is vs σ) H
section
variable {L : Ly} {cal : Str → Call} {k : Nat} {c : Ct} {X : Cx}
theorem names_ok (C : CtOk L cal k c X) : ∀ (es : List Expr) {is : List Nat}, namesC c es = some is →
    PGs X es (gNames is) ∧ is.length = es.length ∧ (assignEach es X.env).length = es.length ∧ (assignEach es X.env).findIdx? (·.1) = none
  | [], is, h => by
    cases h
    refine ⟨?_, rfl, rfl, rfl⟩
    refine ⟨fun pins s σ H vs us Q I r h => pgs_nil.run pins s σ H vs us Q I r ?_⟩
    obtain ⟨h1, h2⟩ := h
    cases vs with
    | nil => exact ⟨rfl, h2⟩
    | cons _ _ => simp at h1
  | e :: es, is, h => by
    unfold namesC at h
    split at h
    · rename_i q; cases q
    · rename_i x p es' q
      cases q
      split at h
      · rename_i i js hi hjs
        cases h
        obtain ⟨g2, l1, l2, l3⟩ := names_ok C es hjs
        obtain ⟨h1, h2, h3⟩ := C.loc hi
        have hc : assignEach (.Name x p :: es) X.env = (false, assign (.Name x p) X.env) :: assignEach es X.env := each_cons rfl
        refine ⟨?_, by simp [l1], by rw [hc]; simp [l2], by rw [hc, List.findIdx?_cons]; simp [l3]⟩
        refine ⟨fun pins s σ H vs us Q I r h => (pgs_cons (pg_name (i := i) (by rw [C.N]; exact C.nd) h1 h2 h3) g2 (by rw [hc]; rfl)).run pins s σ H vs us Q I r ?_⟩
        obtain ⟨q1, q2⟩ := h
        cases vs with
        | nil => simp at q1
        | cons v vs => exact ⟨v, vs, rfl, by simpa using q1, q2⟩
      · cases h
    · cases h
/-- a name among the targets is captured, or there are many of them: no swap -/
def cellIn (c : Ct) (ts : List Expr) : Bool := ts.any fun
  | .Name x _ => decide (c.sc.names.lookup x = some .cell)
  | _ => false
theorem fm_lt {α β : Type} {f : α → Option β} : ∀ {l : List α}, (∃ x ∈ l, f x = none) → (l.filterMap f).length < l.length
  | [], h => by obtain ⟨_, h, _⟩ := h; cases h
  | x :: l, h => by
    rw [List.filterMap_cons]
    by_cases hx : f x = none
    · rw [hx]
      have := List.length_filterMap_le f l
      simp only [List.length_cons]; omega
    · obtain ⟨y, hy, e⟩ := h
      rcases List.mem_cons.mp hy with rfl | hy
      · exact absurd e hx
      · have ih := fm_lt ⟨y, hy, e⟩
        cases e2 : f x with
        | none => exact absurd e2 hx
        | some z => simp only [List.length_cons]; omega
theorem swap_cell {ts vs : List Expr} {kt k2 : Nat} {pt p2 : Pos} (hs : X.env.scope = c.sc) (h : cellIn c ts = true) : swappedStores [.Tuple ts kt pt] (.Tuple vs k2 p2) X.env = pure none := by
  obtain ⟨e, he, hx⟩ := List.any_eq_true.mp h
  have key : ∀ line : Nat, ((ts.filterMap fun
      | .Name id pos => if X.env.kindOf id == some .local && pos.line == line then some id else none
      | _ => none).length != ts.length) = true := fun line => by
    refine bne_iff_ne.mpr (Nat.ne_of_lt (fm_lt ⟨e, he, ?_⟩))
    cases e with
    | Name x p =>
      have hk : X.env.kindOf x = some .cell := by
        show X.env.scope.names.lookup x = _
        rw [hs]; exact of_decide_eq_true hx
      simp only [hk]
      rfl
    | _ => cases hx
  unfold swappedStores
  simp only
  by_cases e1 : (!(ts.length == 2 || ts.length == 3) || vs.length != ts.length || X.env.blockKind != ScopeKind.function) = true
  · rw [if_pos e1]
  · rw [if_neg e1]
    try simp only [pure_bind]
    split
    · rfl
    · rw [if_pos]
      rw [Bool.or_eq_true]
      exact .inl (key _)
theorem s_parT {ok : Okk} {ts vs : List Expr} {is : List Nat} {kt k2 : Nat} {pt pt2 sp : Pos} {g : Es} {q : Bool} (C : CtOk L cal k c X) (hn : namesC c ts = some is) (ha : PA X vs (tA L g q)) (hw : swappedStores [.Tuple ts kt pt] (.Tuple vs k2 pt2) X.env = pure none) :
    PS X (.Assign [.Tuple ts kt pt] (.Tuple vs k2 pt2) sp) (tS L ok (xParT ok is g)) := by
  obtain ⟨pg, l1, l2, l3⟩ := names_ok C ts hn
  refine PS.imp (ps_asg (pe_tup ha) (pg_tup (n := is.length) C.calm pg (by rw [l2, l1]) l3) rfl hw rfl) fun D σ H h => ?_
  obtain ⟨env, B, F, m, fl, env', he, kk⟩ := h
  obtain ⟨⟨rs, e1⟩, h1, he⟩ := bind_eq he
  obtain ⟨_, h0, he⟩ := bind_eq he
  obtain ⟨e2, h2, he⟩ := bind_eq he
  cases he
  refine ⟨env, B, F, m, rs, e1, h1, fun us H' F' T' o => ?_⟩
  have hl := of_decide_eq_true (need_eq h0)
  have lr : rs.length = us.length := o.ms.res.length
  refine ⟨by rw [← lr]; exact le_SZ (by rw [decide_eq_true hl]), fun p hp => ?_⟩
  have hs : Same H' (upd H' p (.tup us)) := same_new hp
  obtain ⟨l, kp, F2, m2, hF⟩ := (o.ms.beside hs).assigns h2
  refine ⟨p, us, rfl, SqT.of upd_same, l, l, ?_⟩
  refine kk _ [] _ F2 [] ⟨kp, m2, ?_, fun a z => o.nw a (z.elim (hF a) fun z => by cases z)⟩
  exact (o.st.mono fun x z => .inl z.2).trans (Z2 := fun _ => False) (stp_of hs) (fun _ z => z) fun _ z => z.elim
end
end Rf
end

section
set_option Elab.async false
set_option linter.all false
set_option maxRecDepth 10000
/-! The reading of statements is right. -/
namespace Rf
open PySem PySem.Spec PyProof.Rows L2
/-- y = [..], where the compiler swaps y in -/
def swC (c : Ct) (y : Str) (py : Pos) (scope : Scope) (ep : Pos) : Bool :=
  decide (c.sc.kind = .function) && decide (c.sc.names.lookup y = some .local) && decide (py.line = ep.line) && !(scope.names.any fun q => decide (q.1 = y) && (decide (q.2 = .local) || decide (q.2 = .cell)))
def stsW (f : Stmt → Option MSt) : List Stmt → Option MSts
  | [] => some .nil
  | s :: r => do
    let a ← f s
    let as ← stsW f r
    pure (.cons a as)
/-- many names at once, from a display, without a swap -/
def manyN (c : Ct) (ts : List Expr) : Expr → Bool
  | .Tuple vs _ _ => cellIn c ts || (decide (3 < vs.length) && (namesC c ts).isSome)
  | _ => false
theorem many_swap {c : Ct} {X : Cx} {ts vs : List Expr} {kt k2 : Nat} {pt p2 : Pos} (hs : X.env.scope = c.sc) (h : manyN c ts (.Tuple vs k2 p2) = true) : swappedStores [.Tuple ts kt pt] (.Tuple vs k2 p2) X.env = pure none := by
  have h' : (cellIn c ts || (decide (3 < vs.length) && (namesC c ts).isSome)) = true := h
  rw [Bool.or_eq_true, Bool.and_eq_true] at h'
  rcases h' with h' | ⟨h', _⟩
  · exact swap_cell hs h'
  · refine swap_none ?_
    show (vs.all (foldedForSure 8) || decide (3 < vs.length)) = true
    rw [h']; simp
theorem swaps_cell {c : Ct} {y : Str} {py ep : Pos} {elt : Expr} {gens : List Comprehension} {scope : Scope} {l : Nat} {env : PySem.Env} (hs : env.scope = c.sc) (h : c.sc.names.lookup y = some .cell) : swapsWith (.ListComp elt gens scope ep) (some (.Name y py)) l env = pure false := by
  have hy : env.kindOf y = some .cell := by
    show env.scope.names.lookup y = _
    rw [hs]; exact h
  unfold swapsWith
  simp only [hy]
  have e : ((some NameKind.cell : Option NameKind) == some NameKind.local) = false := rfl
  simp [e]
def cS (c : Ct) : Nat → Stmt → Option MSt
  | 0, _ => none
  | n + 1, s => match s with
    | .Pass _ => some .pass
    | .Break _ => some .brk
    | .Continue _ => some .cnt
    | .Raise .. => some .never
    | .Expr e _ => if noComp e then (cE c 100 e).map .expr else none
    | .Return (some e) _ => (cE c 100 e).map .ret
    | .Return none _ => some .retN
    | .Assign [.Name x p] e sp => (match e with
      | .ListComp _ _ scope ep => if swC c x p scope ep then (match c.loc x, cE c 100 e with
          | some i, some m => some (.set i m)
          | _, _ => none) else if decide (c.sc.names.lookup x = some .cell) then (match c.loc x, cE c 100 e with
          | some i, some m => some (.set i m)
          | _, _ => none) else none
      | _ => if noComp e then (match c.loc x, cE c 100 e with
          | some i, some m => some (.set i m)
          | _, _ => none) else none)
    | .Assign [.Subscript o i _] e _ => if notSlice i && noComp e then (match cE c 100 o, cE c 100 i, cE c 100 e with
        | some o, some i, some e => some (.store o i e)
        | _, _, _ => none) else none
    | .Assign [.Tuple ts k p] e _ => if noComp e then (if manyN c ts e then (match e with
        | .Tuple vs _ _ => (match namesC c ts, argsW (cE c 100) vs with
          | some is, some es => if vs.all noStar then some (.parT is es) else none
          | _, _ => none)
        | _ => none) else if noSwap (.Tuple ts k p) e then (match tgC c 5 (.Tuple ts k p), cE c 100 e with
        | some t, some m => some (.asg t m)
        | _, _ => none)
      else (match e with
        | .Tuple vs _ _ => (match parC c ts vs, argsW (cE c 100) vs with
          | some l, some es => some (.par (l.map (·.2)) es)
          | _, _ => none)
        | _ => none)) else none
    | .If t a b _ => (match cT c 100 t, stsW (cS c n) a, stsW (cS c n) b with
      | some t, some a, some b => some (.ife t a b)
      | _, _, _ => none)
    | .For tg it b [] _ => if noSet it then (match tgC c 5 tg, cI c 100 tg it, stsW (cS c n) b with
      | some t, some it, some b => some (.loop t it b)
      | _, _, _ => none) else none
    | .While t b [] _ => (match cT c 100 t, stsW (cS c n) b with
      | some t, some b => some (.whl t b 1000)
      | _, _ => none)
    | _ => none
section
variable {L : Ly} {cal : Str → Call} {k : Nat} {c : Ct} {X : Cx}
/-- a body's frame -/
structure BdOk (L : Ly) (cal : Str → Call) (k : Nat) (c : Ct) (X : Cx) : Prop extends CtOk L cal k c X where
  xe : X.xe = fun _ _ => False
theorem swaps_no {e : Expr} {t : Option Expr} {l : Nat} {env : PySem.Env} (h : noComp e = true) : swapsWith e t l env = pure false := by
  cases e <;> first | rfl | (cases h; done)
theorem sole_no {t e : Expr} {l : Nat} {env : PySem.Env} (h : noComp e = true) : swapsWithSole [t] e l env = pure false := swaps_no h
theorem swaps_yes {c : Ct} {y : Str} {py ep : Pos} {elt : Expr} {gens : List Comprehension} {scope : Scope} {l : Nat} {env : PySem.Env} (hs : env.scope = c.sc) (h : swC c y py scope ep = true) : swapsWith (.ListComp elt gens scope ep) (some (.Name y py)) l env = pure true := by
  unfold swC at h
  simp only [Bool.and_eq_true, decide_eq_true_eq, Bool.not_eq_true'] at h
  obtain ⟨⟨⟨h1, h2⟩, h3⟩, h4⟩ := h
  have hk : env.blockKind = .function := kind_fn (by rw [hs]; exact h1)
  have hy : env.kindOf y = some .local := by
    show env.scope.names.lookup y = _
    rw [hs]; exact h2
  have e1 : (Expr.ListComp elt gens scope ep).pos = ep := rfl
  have h5 : (scope.names.any fun (n, k) => n == y && (k == .local || k == .cell)) = false := by
    rw [List.any_eq_false] at h4 ⊢
    intro q hq
    have := h4 q hq
    simpa using this
  unfold swapsWith
  simp only [hk, hy, e1, h3]
  rw [h5]
  simp
theorem readAll (n : Nat) : ReadE L cal k n ∧ ReadC L cal k n ∧ ReadT L cal k n ∧ ReadI L cal k n := read_all n
theorem argsTk_ok {f : Expr → Option ME} (hf : ∀ e m, f e = some m → PE X e (tE L (m.den cal) m.q)) : ∀ (es : List Expr) {ms : MEs}, es.all noStar = true → argsW f es = some ms → PA X es (tA L (ms.denTk cal) ms.q)
  | [], ms, _, h => by
    cases h
    exact a_nil
  | e :: es, ms, hs, h => by
    rw [List.all_cons, Bool.and_eq_true] at hs
    have h' : ((f e) >>= fun a => (argsW f es) >>= fun as => some (MEs.cons a as)) = some ms := by
      have h1 := hs.1
      cases e <;> first | exact h | (cases h1; done)
    obtain ⟨a, h1, h'⟩ := bindO h'
    obtain ⟨as, h2, h'⟩ := bindO h'
    cases h'
    show PA X (e :: es) (tA L (fCons (fTk (a.den cal)) (as.denTk cal) as.q) (a.q && as.q))
    exact a_cons hs.1 (e_tk (hf e a h1)) (argsTk_ok hf es hs.2 h2)
theorem sts_ok {ok : Okk} {f : Stmt → Option MSt} (hf : ∀ s m, f s = some m → PS X s (tS L ok (m.den cal ok))) : ∀ (ss : List Stmt) {ms : MSts}, stsW f ss = some ms → PSs X ss (tS L ok (ms.den cal ok))
  | [], ms, h => by
    cases h
    exact ss_nil
  | s :: r, ms, h => by
    obtain ⟨a, h1, h'⟩ := bindO (show ((f s) >>= fun a => (stsW f r) >>= fun as => some (MSts.cons a as)) = some ms from h)
    obtain ⟨as, h2, h'⟩ := bindO h'
    cases h'
    exact ss_cons (hf s a h1) (sts_ok hf r h2)
theorem par_ok (C : CtOk L cal k c X) {ok : Okk} {ts vs : List Expr} {l : List (Str × Nat)} {es : MEs} {kt k2 : Nat} {pt pt2 sp : Pos} (h : parC c ts vs = some l) (ha : argsW (cE c 100) vs = some es) :
    PS X (.Assign [.Tuple ts kt pt] (.Tuple vs k2 pt2) sp) (tS L ok (xPars ok (l.map (·.2)) (es.denTk cal))) := by
  unfold parC at h
  split at h
  · rename_i hb
    simp only [Bool.and_eq_true, decide_eq_true_eq, Bool.not_eq_true'] at hb
    obtain ⟨⟨⟨hk, hs⟩, h1⟩, h2⟩ := hb
    have pa := argsTk_ok ((readAll 100).1 c X C) vs hs ha
    have hN : X.N.Nodup := by rw [C.N]; exact C.nd
    have ne : ∀ {x y : Str} {i j : Nat}, x ≠ y → nameIx x c.N 0 = some i → nameIx y c.N 0 = some j → i ≠ j := fun {x y i j} q hi hj e => by
      have a1 := nameIx_at hi
      have a2 := nameIx_at hj
      rw [e, a2] at a1
      exact q (Option.some.inj a1).symm
    split at h
    · split at h
      · rename_i hz
        simp only [Bool.and_eq_true, decide_eq_true_eq] at hz
        obtain ⟨⟨⟨z1, z2⟩, z3⟩, z4⟩ := hz
        split at h
        · rename_i i j hi hj
          cases h
          exact s_par C.calm hN (by rw [C.N]; exact nameIx_at hi) (by rw [C.N]; exact nameIx_at hj) (ne z4 hi hj) (by rw [C.sc]; exact z1) (by rw [C.sc]; exact z2) pa
            (swap2 (by rw [C.sc]; exact hk) (by rw [C.sc]; exact z1) (by rw [C.sc]; exact z2) z3 z4 hs h1 h2)
        · cases h
      · cases h
    · split at h
      · rename_i hz
        simp only [Bool.and_eq_true, decide_eq_true_eq] at hz
        obtain ⟨⟨⟨⟨⟨⟨⟨z1, z2⟩, z3⟩, z4⟩, z5⟩, z6⟩, z7⟩, z8⟩ := hz
        split at h
        · rename_i i j l hi hj hl
          cases h
          exact s_par3 C.calm hN (by rw [C.N]; exact nameIx_at hi) (by rw [C.N]; exact nameIx_at hj) (by rw [C.N]; exact nameIx_at hl) (ne z6 hi hj) (ne z7 hi hl) (ne z8 hj hl) (by rw [C.sc]; exact z1) (by rw [C.sc]; exact z2) (by rw [C.sc]; exact z3) pa
            (swap3 (by rw [C.sc]; exact hk) (by rw [C.sc]; exact z1) (by rw [C.sc]; exact z2) (by rw [C.sc]; exact z3) z4 z5 z6 z7 z8 hs h1 h2)
        · cases h
      · cases h
    · cases h
  · cases h
theorem setLc_ok (C : CtOk L cal k c X) {ok : Okk} {n i : Nat} {y : Str} {py ep sp : Pos} {elt : Expr} {gens : List Comprehension} {scope : Scope} {m : ME} (hw : swC c y py scope ep = true) (hi : c.loc y = some i) (h : cE c (n + 1) (.ListComp elt gens scope ep) = some m) :
    PS X (.Assign [.Name y py] (.ListComp elt gens scope ep) sp) (tS L ok (xSet ok i (m.den cal))) := by
  obtain ⟨hE, hC, hT, hI⟩ := readAll (L := L) (cal := cal) (k := k) n
  unfold cE at h
  split at h
  all_goals (first | (exfalso; rename_i q; cases q; done) | (exfalso; rename_i q _; cases q; done) | skip)
  · rename_i elt0 _ tg0 iter0 ifs0 scope0 _ q
    cases q
    dsimp only at h
    split at h
    · rename_i hb
      simp only [Bool.and_eq_true, decide_eq_true_eq] at hb
      obtain ⟨⟨b1, b2⟩, b3⟩ := hb
      obtain ⟨t, ht, h⟩ := bindO h
      obtain ⟨it', hit, h⟩ := bindO h
      obtain ⟨cond, hc, h⟩ := bindO h
      obtain ⟨e1, he, h⟩ := bindO h
      split at h
      · rename_i hl
        cases h
        have bok := blkOk_by b1
        rw [← C.N, ← C.sc] at bok
        have hw' := hw
        unfold swC at hw'
        simp only [Bool.and_eq_true, decide_eq_true_eq, Bool.not_eq_true'] at hw'
        unfold Ct.pick
        split
        · rename_i j hj0
          split
          · refine s_setLc (ok := fun _ => true) (l := t.slots) (qc := cond.q) C.calm (by rw [C.N]; exact C.nd) b2 (fun j hj => by simpa using List.all_eq_true.mp hl j hj) (C.loc hi).1 (by rw [C.sc]; exact hw'.1.1.2) (swaps_yes C.sc hw) (hI c X C _ _ _ b3 hit) bok
              (fun s H Ca cl fp => (tg_ok (C.blk _ s H Ca cl fp) _ _ _ _ ht).2) (fun s H Ca cl fp => ?_) (fun s H Ca cl fp => hE _ _ (C.blk _ s H Ca cl fp) _ _ he) (fold_of b3)
            split at hc
            · cases hc
              exact ts_nil
            · exact pts_one (hT _ _ (C.blk _ s H Ca cl fp) _ _ hc).1
            · cases hc
          · obtain ⟨x, xp, rfl, hx, hv, hd1, hd2⟩ := C.lend hj0
            refine s_setLcV (ok := fun _ => true) (l := t.slots) (x := x) (qc := cond.q) C.K C.calm (by rw [C.N]; exact C.nd) b2 (fun j hj => by simpa using List.all_eq_true.mp hl j hj) (C.loc hi).1 (by rw [C.sc]; exact hw'.1.1.2) (swaps_yes C.sc hw) hx hv hd1 hd2 bok
              (fun s H Ca cl fp => (tg_ok (C.blk _ s H Ca cl fp) _ _ _ _ ht).2) (fun s H Ca cl fp => ?_) (fun s H Ca cl fp => hE _ _ (C.blk _ s H Ca cl fp) _ _ he) (fold_of b3)
            split at hc
            · cases hc
              exact ts_nil
            · exact pts_one (hT _ _ (C.blk _ s H Ca cl fp) _ _ hc).1
            · cases hc
        · refine s_setLc (ok := fun _ => true) (l := t.slots) (qc := cond.q) C.calm (by rw [C.N]; exact C.nd) b2 (fun j hj => by simpa using List.all_eq_true.mp hl j hj) (C.loc hi).1 (by rw [C.sc]; exact hw'.1.1.2) (swaps_yes C.sc hw) (hI c X C _ _ _ b3 hit) bok
            (fun s H Ca cl fp => (tg_ok (C.blk _ s H Ca cl fp) _ _ _ _ ht).2) (fun s H Ca cl fp => ?_) (fun s H Ca cl fp => hE _ _ (C.blk _ s H Ca cl fp) _ _ he) (fold_of b3)
          split at hc
          · cases hc
            exact ts_nil
          · exact pts_one (hT _ _ (C.blk _ s H Ca cl fp) _ _ hc).1
          · cases hc
      · cases h
    · cases h
  · cases h
/-- every statement -/
theorem stmt_ok (C : BdOk L cal k c X) : ∀ (n : Nat) (s : Stmt) (m : MSt), cS c n s = some m → PS X s (tS L c.ok (m.den cal c.ok))
  | 0, s, m, h => by
    cases s <;> (unfold cS at h; cases h)
  | n + 1, s, m, h => by
    obtain ⟨hE, hC, hT, hI⟩ := readAll (L := L) (cal := cal) (k := k) 100
    have C0 := C.toCtOk
    have hE := hE c X C0
    have hT := hT c X C0
    have hI := hI c X C0
    have ih := stmt_ok C n
    have hx : PassesOwn (model X.prog X.w) X.A X.env X.xe := by
      rw [C.xe]; exact PassesOwn.never
    unfold cS at h
    split at h
    · cases h; exact s_pass
    · cases h; exact s_brk
    · cases h; exact s_cnt
    · cases h; exact s_never
    · split at h
      · rename_i hn
        obtain ⟨a, ha, rfl⟩ := mapO h
        exact s_expr (hE _ _ ha) (swaps_no hn)
      · cases h
    · obtain ⟨a, ha, rfl⟩ := mapO h
      exact s_ret (hE _ _ ha)
    · cases h; exact s_retN
    · split at h
      · split at h
        · rename_i hw
          split at h
          · rename_i i m' hi hm
            cases h
            exact setLc_ok C0 hw hi hm
          · cases h
        · split at h
          · rename_i hcell
            split at h
            · rename_i i m' hi hm
              cases h
              obtain ⟨q1, q2, q3⟩ := C0.loc hi
              exact s_set (by rw [C.N]; exact C.nd) q1 q2 q3 (hE _ _ hm) (swaps_cell C.sc (of_decide_eq_true hcell))
            · cases h
          · cases h
      · split at h
        · rename_i hn
          split at h
          · rename_i i m' hi hm
            cases h
            obtain ⟨q1, q2, q3⟩ := C0.loc hi
            exact s_set (by rw [C.N]; exact C.nd) q1 q2 q3 (hE _ _ hm) (swaps_no hn)
          · cases h
        · cases h
    · split at h
      · rename_i hn
        rw [Bool.and_eq_true] at hn
        split at h
        · rename_i o i e ho hi he
          cases h
          exact s_store (hE _ _ ho) (hE _ _ hi) (hE _ _ he) hn.1 (sole_no hn.2) (swap_none rfl)
        · cases h
      · cases h
    · split at h
      · rename_i hn
        split at h
        · rename_i hmany
          split at h
          · split at h
            · rename_i is es his hes
              split at h
              · rename_i hst
                cases h
                exact s_parT C0 his (argsTk_ok ((readAll 100).1 c X C0) _ hst hes) (many_swap C.sc hmany)
              · cases h
            · cases h
          · cases h
        split at h
        · rename_i hs
          split at h
          · rename_i t m' ht hm
            cases h
            exact s_asg (hE _ _ hm) (tg_ok C0 _ _ _ _ ht).2 (sole_no hn) (swap_none hs) rfl
          · cases h
        · split at h
          · split at h
            · rename_i l es hl hes
              cases h
              exact par_ok C0 hl hes
            · cases h
          · cases h
      · cases h
    · split at h
      · rename_i t a b ht ha hb
        cases h
        exact s_if (hT _ _ ht).1 (sts_ok ih _ ha) (sts_ok ih _ hb)
      · cases h
    · split at h
      · rename_i hn
        split at h
        · rename_i t it b ht hit hb
          cases h
          exact s_for hx C.calm (hI _ _ _ hn hit) (tg_ok C0 _ _ _ _ ht).2 (sts_ok ih _ hb) (fold_of hn)
        · cases h
      · cases h
    · split at h
      · rename_i t b ht hb
        cases h
        exact s_while hx (hT _ _ ht).1 (sts_ok ih _ hb)
      · cases h
    · cases h
theorem body_ok (C : BdOk L cal k c X) {n : Nat} {ss : List Stmt} {ms : MSts} (h : stsW (cS c n) ss = some ms) : PSs X ss (tS L c.ok (ms.den cal c.ok)) := sts_ok (stmt_ok C n) ss h
end
end Rf
end

section
set_option Elab.async false
set_option linter.all false
set_option maxRecDepth 10000
/-! The whole program: its defs, what they compute. -/
namespace Rf
open PySem PySem.Spec PyProof.Rows L2
/-- the arguments are the parameters, one each -/
def plainP (p : Arguments) : Bool := p.posonlyargs.isEmpty && p.vararg.isNone && p.kwonlyargs.isEmpty && p.kwarg.isNone && p.defaults.isEmpty
theorem zip_lookup {α β : Type} [BEq α] [LawfulBEq α] : ∀ {ps : List α} {us : List β}, us.length = ps.length → ∀ x ∈ ps, ((ps.zip us).lookup x).isSome = true
  | [], _, _, _, h => by cases h
  | p :: ps, [], h, _, _ => by simp at h
  | p :: ps, u :: us, hl, x, h => by
    rw [List.zip_cons_cons, List.lookup_cons]
    cases e : x == p with
    | true => rfl
    | false =>
      rcases List.mem_cons.mp h with h | h
      · subst h; simp at e
      · exact zip_lookup (by simpa using hl) x h
theorem zip_filter {α β : Type} [BEq α] [LawfulBEq α] : ∀ {ps : List α} {us : List β}, ps.Nodup → us.length = ps.length → ∀ (f : α → Option β), (∀ p u, (p, u) ∈ ps.zip us → f p = some u) → ps.filterMap (fun n => (f n).map (n, ·)) = ps.zip us
  | [], us, _, _, _, _ => by simp
  | p :: ps, [], _, h, _, _ => by simp at h
  | p :: ps, u :: us, nd, hl, f, hf => by
    rw [List.filterMap_cons, hf p u (by simp)]
    simp only [Option.map_some, List.zip_cons_cons]
    rw [zip_filter (List.nodup_cons.mp nd).2 (by simpa using hl) f fun q v h => hf q v (List.mem_cons_of_mem _ h)]
theorem zip_at {α β : Type} [BEq α] [LawfulBEq α] : ∀ {ps : List α} {us : List β}, ps.Nodup → ∀ p u, (p, u) ∈ ps.zip us → (ps.zip us).lookup p = some u
  | [], _, _, _, _, h => by simp at h
  | p :: ps, [], _, _, _, h => by simp at h
  | p :: ps, u :: us, nd, q, v, h => by
    rw [List.zip_cons_cons] at h ⊢
    rw [List.lookup_cons]
    rcases List.mem_cons.mp h with h | h
    · cases h; simp
    · have hq : q ∈ ps := (List.of_mem_zip h).1
      have : (q == p) = false := by
        have := (List.nodup_cons.mp nd).1
        cases e : q == p with
        | false => rfl
        | true => rw [eq_of_beq e] at hq; exact absurd hq this
      rw [this]
      exact zip_at (List.nodup_cons.mp nd).2 q v h
theorem bind_ps {x qual : Str} {p : Arguments} {bd : List Stmt} {scope : Scope} (kV doc pm : Value) (an : Option Addr) (cdv ct : Value) (us : List Value) (hp : plainP p = true) (nd : (p.args.map (·.arg)).Nodup) (hl : us.length = (p.args.map (·.arg)).length) :
    bindArgs (PySem.W.fnOf x qual p bd scope .none kV doc pm an cdv ct) ⟨us, []⟩ = pure ((p.args.map (·.arg)).zip us) := by
  obtain ⟨po, ar, va, ko, kd, kw, df⟩ := p
  unfold plainP at hp
  simp only [Bool.and_eq_true, List.isEmpty_iff, Option.isNone_iff_eq_none] at hp
  obtain ⟨⟨⟨⟨rfl, rfl⟩, rfl⟩, rfl⟩, rfl⟩ := hp
  simp only at nd hl
  have e0 : seqItems? Value.none = pure none := rfl
  unfold bindArgs PySem.W.fnOf
  have hm : List.filter (fun n => (List.lookup n ((ar.map (·.arg)).zip us)).isNone) (List.take ((ar.map (·.arg)).length) (ar.map (·.arg))) = [] := by
    rw [List.filter_eq_nil_iff]
    intro n hn
    have := zip_lookup hl n (List.mem_of_mem_take hn)
    cases e : List.lookup n ((ar.map (·.arg)).zip us) with
    | none => rw [e] at this; cases this
    | some _ => simp
  have hz := zip_filter nd hl (fun n => ((ar.map (·.arg)).zip us).lookup n) (zip_at nd)
  simp only [List.map_nil, List.nil_append, e0, List.append_nil]
  simp [hl]
  rw [if_neg ?_]
  · rw [← List.filterMap_map, hz]
  · rw [show ((ar.map (·.arg)).length - (List.drop ((#[] : Array Value).size - (ar.map (·.arg)).length) ([] : List Value)).length) = (ar.map (·.arg)).length by simp, hm]
    simp
end Rf
end

section
set_option Elab.async false
set_option linter.all false
set_option maxRecDepth 10000
/-! The whole program: its defs and what they compute. -/
namespace Rf
open PySem PySem.Spec PyProof.Rows L2
/-- one def of the text -/
structure Dn where
  name : Str
  pr : Arguments
  bd : List Stmt
  sc : Scope
  N : List Str
  st : List Bool
def Dn.ps (d : Dn) : List Str := d.pr.args.map (·.arg)
def Dn.ok (d : Dn) : Okk := fun i => d.st.getD i true
def Dn.df (d : Dn) : Df := ⟨d.ps.length, d.N.length, d.ok⟩
def Dn.dd (d : Dn) : He.DefD := ⟨(d.name, none), d.name, d.name, d.pr, d.bd, d.sc, [], []⟩
def findD (x : Str) : List Dn → Option Dn
  | [] => none
  | d :: ds => if x = d.name then some d else findD x ds
theorem findD_ok {x : Str} : ∀ {ds : List Dn} {d : Dn}, findD x ds = some d → d ∈ ds ∧ d.name = x
  | [], _, h => by cases h
  | e :: ds, d, h => by
    unfold findD at h
    split at h
    · cases h
      rename_i q
      exact ⟨List.mem_cons_self, q.symm⟩
    · obtain ⟨h1, h2⟩ := findD_ok h
      exact ⟨List.mem_cons_of_mem _ h1, h2⟩
/-- a module's name that is not a def -/
inductive Gv where
  | int (i : Int)
  | str (x : Str)
def Gv.dat : Gv → PyData
  | .int i => .int i
  | .str x => .str x
structure Pg where
  ds : List Dn
  free : List Str
  gl : List (Str × Gv)
def Pg.ct (p : Pg) (d : Dn) : Ct where
  N := d.N
  sc := d.sc
  fn := fun _ => true
  ok := d.ok
  free := p.free
  ar := fun x => (findD x p.ds).map fun d => d.ps.length
  glb := p.gl.map fun q => (q.1, q.2.dat)
def Pg.code (p : Pg) (d : Dn) : Option MSts := stsW (cS (p.ct d) 60) d.bd
def Pg.body (p : Pg) (d : Dn) : MSts := (p.code d).getD (.cons .never .nil)
/-- what the defs compute, n calls deep -/
def Pg.calls (p : Pg) : Nat → Str → Call
  | 0, _ => fun _ => .fail
  | n + 1, x => match findD x p.ds with
    | some d => runDf d.df ((p.body d).den (p.calls n) d.ok)
    | none => fun _ => .fail
def Gv.fact (x : Str) : Gv → He.Fa
  | .int i => .int x i
  | .str z => .str x z
def Pg.facts (p : Pg) : List He.Fa := (p.ds.map fun d => He.Fa.glo d.name) ++ (p.free.map He.Fa.free) ++ p.gl.map fun q => q.2.fact q.1
def Dn.good (d : Dn) : Bool := C8.scC d.N d.ps d.sc && plainP d.pr && decide d.ps.Nodup && decide (d.st.length ≤ d.ps.length) && d.pr.kw_defaults.isEmpty
def Pg.good (p : Pg) : Bool := p.ds.all fun d => d.good && (p.code d).isSome
/-- dicts, sets, classes: none yet -/
def ly0 (K : PySem.W.Frag) : Ly where
  K := K
  cls := fun _ => none
  dic := fun _ _ _ _ => False
  set := fun _ _ _ => False
  dic_step := fun _ _ _ _ h => h
  set_step := fun _ _ h => h
  dic_there := fun h => h.elim
  set_there := fun h => h.elim
theorem lookup_map {α β γ : Type} [BEq α] [LawfulBEq α] (f : β → γ) {x : α} {c : γ} : ∀ {l : List (α × β)}, (l.map fun q => (q.1, f q.2)).lookup x = some c → ∃ b, (x, b) ∈ l ∧ f b = c
  | [], h => by cases h
  | (y, b) :: l, h => by
    rw [List.map_cons, List.lookup_cons] at h
    cases e : x == y with
    | true =>
      rw [e] at h
      cases h
      rw [eq_of_beq e]
      exact ⟨b, List.mem_cons_self, rfl⟩
    | false =>
      rw [e] at h
      obtain ⟨b', h1, h2⟩ := lookup_map f h
      exact ⟨b', List.mem_cons_of_mem _ h1, h2⟩
section
variable {P : Program} {w : World} {K : PySem.W.Frag} {mg : Str → Option Value} {h : Heap} {p : Pg}
theorem fact_at {fa : List He.Fa} {fn : List He.DefD} (c : He.SaysD fa fn K) {f : He.Fa} (hf : f ∈ fa) : f.ok K = true := by
  obtain ⟨i, hi⟩ := List.mem_iff_getElem?.mp hf
  exact c.fact i hi
theorem def_at {ds : List Dn} {fa : List He.Fa} (c : He.SaysD fa (ds.map Dn.dd) K) {d : Dn} (hd : d ∈ ds) : ∃ fd, FunD K d.name d.name d.pr d.bd d.sc [] [] (He.fAd K (d.name, none)) fd := by
  obtain ⟨i, hi⟩ := List.mem_iff_getElem?.mp (List.mem_map_of_mem (f := Dn.dd) hd)
  exact c.def_ i hi
theorem calls_len {n : Nat} {x : Str} {d : Dn} (hd : findD x p.ds = some d) {ws : List W} {r : R} {fs : Env} (hc : p.calls n x ws = .ok (r, fs)) : ws.length = d.ps.length := by
  cases n with
  | zero => cases hc
  | succ n =>
    unfold Pg.calls at hc
    rw [hd] at hc
    obtain ⟨_, h1, _⟩ := bind_eq hc
    exact of_decide_eq_true (need_eq h1)
/-- every def keeps the promise of what it computes -/
theorem prog_ok (c : He.SaysD p.facts (p.ds.map Dn.dd) K) (X : K.In h) (G : h.Ns mainGlobals mg) (hg : p.good = true) : ∀ (n : Nat) (x : Str) (d : Dn), findD x p.ds = some d →
    ∃ fd, FunD K d.name d.name d.pr d.bd d.sc [] [] (He.ga K x) fd ∧ Binds K fd d.ps [] ∧ (∀ (s : Shared) (us : List Value), us.length = d.ps.length → BindsTo s fd ⟨us, []⟩ (d.ps.zip us)) ∧ ∀ base : Heap, FnG P w K mg base n (He.ga K x) fd d.ps (spC (ly0 K) d.ps.length (p.calls n x))
  | n, x, d, hd => by
    obtain ⟨hm, rfl⟩ := findD_ok hd
    obtain ⟨fd, F⟩ := def_at c hm
    have gd := List.all_eq_true.mp hg d hm
    rw [Bool.and_eq_true] at gd
    obtain ⟨g1, g2⟩ := gd
    unfold Dn.good at g1
    simp only [Bool.and_eq_true, decide_eq_true_eq] at g1
    obtain ⟨⟨⟨⟨s1, s2⟩, s3⟩, s4⟩, s5⟩ := g1
    refine ⟨fd, F, F.bindsN fun kV doc pm an cdv ct us hl => bind_ps kV doc pm an cdv ct us s2 s3 hl, fun s us hl => F.bindsA (fun kV doc pm an cdv ct us hl => bind_ps kV doc pm an cdv ct us s2 s3 hl) s us hl, fun base => ?_⟩
    cases n with
    | zero =>
      refine ⟨fun vs H Q E q => q.1, fun A outer s H args us vs Q hr hgu e0 hb r q => ?_⟩
      obtain ⟨_, ws, B, F0, _, r', fin, hc, _⟩ := q
      cases hc
    | succ n =>
      have ih := prog_ok c X G hg n
      have e1 : p.calls (n + 1) d.name = runDf d.df ((p.body d).den (p.calls n) d.ok) := by
        show (match findD d.name p.ds with | some d => runDf d.df ((p.body d).den (p.calls n) d.ok) | none => fun _ => Rs.fail) = _
        rw [hd]
      rw [e1]
      refine fnG_df (d := d.df) F (C8.fnScope_by s1) rfl rfl (fun i hi => ?_) fun Y y1 y2 y3 y4 y5 y6 y7 y8 y9 y10 hr hgu => ?_
      · have : d.st.length ≤ i := Nat.le_trans s4 hi
        show d.st.getD i true = true
        rw [List.getD_eq_getElem?_getD, List.getElem?_eq_none this]; rfl
      · have hcode : stsW (cS (p.ct d) 60) d.bd = some (p.body d) := by
          unfold Pg.body
          cases e : p.code d with
          | none => rw [e] at g2; cases g2
          | some m => exact e
        refine body_ok (c := p.ct d) (k := n) { N := y6, sc := y7, fn := y10, calm := y8, nd := (C8.fnScope_by s1).nd, K := y3.symm, room := hr, gu := hgu, fre := fun x hx => ?_, cal := fun x np hx => ?_, glb := fun x v hx => ?_, xe := y9 } hcode
        · rw [y4]
          exact He.free_ok X G (fact_at c (List.mem_append_left _ (List.mem_append_right _ (List.mem_map_of_mem hx))))
        · obtain ⟨d', hd', rfl⟩ := mapO hx
          obtain ⟨fd', F', b', _, G'⟩ := ih x d' hd'
          obtain ⟨hm', rfl⟩ := findD_ok hd'
          refine ⟨⟨_, fd', d'.ps, by rw [y1, y2, y3, y4, y5]; exact G' base, ?_, by rw [y3]; exact F'.kp, by rw [y3]; exact b', rfl⟩, fun ws r fs hc => calls_len hd' hc⟩
          rw [y4]
          exact He.glo_ok X G (fact_at c (List.mem_append_left _ (List.mem_append_left _ (List.mem_map_of_mem (f := fun d => He.Fa.glo d.name) hm'))))
        · obtain ⟨b, hb, rfl⟩ := lookup_map Gv.dat hx
          have fa := fact_at c (List.mem_append_right _ (List.mem_map_of_mem (f := fun q => q.2.fact q.1) hb))
          rw [y4]
          cases b with
          | int i =>
            obtain ⟨t, e⟩ := He.int_ok X G fa
            exact ⟨.int i, _, e, ⟨t, rfl⟩, fun A H => .int i⟩
          | str z =>
            obtain ⟨t, e⟩ := He.str_ok X G fa
            exact ⟨.str z, _, e, ⟨t, rfl⟩, fun A H => .str z⟩
end
end Rf
end

section
set_option Elab.async false
set_option linter.all false
set_option maxRecDepth 10000
/-! The law's own call. -/
namespace Rf
open PySem PySem.Spec PyProof.Rows L2
/-- the heap of which nothing but the script is known -/
def scriptH (a : Addr) (o : Obj) (xs : List V) : Hp := fun b => if b = a then some (.frz o (.lst xs)) else none
theorem script_call {P : Program} {w : World} {K : PySem.W.Frag} {mg mb : Str → Option Value} {k : Nat} {fa a : Addr} {fd : FuncData} {x : Str} {sp : Sp} {s : Shared} {us : List Value} {ns : List Int}
    (inK : K.In s.heap) (nsG : s.heap.Ns mainGlobals mg) (nsB : s.heap.Ns builtinsNs mb) (boots : ∀ x : Str, x ≠ "__name__" → mb x = bootBuiltins x) (nolim : s.heap.NoLimit) (nogen : s.gens = #[])
    (at_a : s.heap.get? a = some { cls := .type "list", data := .seq us.toArray }) (hints0 : IntsAre us ns) (short : ns.length ≤ sizeLine) (room : Room k callerA)
    (F : ∀ base : Heap, K.In base → base.Ns mainGlobals mg → FnG P w K mg base k fa fd [x] sp) (bnd : ∀ (s : Shared) (u : Value), BindsTo s fd ⟨[u], []⟩ [(x, u)])
    (pure_ : ∀ H : Hp, SqF K H a (ns.map V.int) → sp [.ref a] H (fun v _ => v = .bl true) E0) :
    codeAny (model P w) callerA (.call (.ref fa) ⟨[.ref a], []⟩) (fun r s' => r = .ok (.ret (.bool true)) ∧ OldK s.heap s'.heap ∧ s'.os = s.os ∧ AllBare s'.gens) s := by
  have rel := vals_ints hints0
  have len := hints0.length
  -- from any tracked heap that holds at most the script
  have main : ∀ H : Hp, SqF K H a (ns.map V.int) → HOk P w H s.heap → (∀ b u, H b = some u → b = a ∧ ∃ o xs, u = .frz o (.lst xs)) → ((∃ u, H a = some u) → K.lookup a = none) →
      codeAny (model P w) callerA (.call (.ref fa) ⟨[.ref a], []⟩) (fun r s' => r = .ok (.ret (.bool true)) ∧ OldK s.heap s'.heap ∧ s'.os = s.os ∧ AllBare s'.gens) s := by
    intro H hS hok only apart
    have free : ∀ {b : Addr}, b ≠ a → H b = none := fun {b} ne => by
      cases q : H b with
      | none => rfl
      | some u => exact absurd (only b u q).1 ne
    have put : ∀ {b : Addr} {o : Obj}, s.heap.get? b = some o → H b = none → (hidT s.heap H).get? b = some o := fun e n => hidT_get e n
    have ns_of : ∀ {b : Addr} {m : Str → Option Value}, s.heap.Ns b m → (hidT s.heap H).Ns b m := fun {b m} h => by
      obtain ⟨o, es, ep, e, d, r⟩ := h
      refine ⟨o, es, ep, put e (free fun z => ?_), d, r⟩
      subst z
      rw [at_a] at e
      cases e
      exact absurd d (by intro q; cases q)
    have kb : K.In (hidT s.heap H) := fun b o e => put (inK b o e) (by
      cases q : H b with
      | none => rfl
      | some u =>
        obtain ⟨rfl, _⟩ := only b u q
        rw [apart ⟨u, q⟩] at e
        cases e)
    obtain ⟨mc, c1, c2⟩ := nolim
    have md : Mod K mg (hidT s.heap H) := ⟨kb, ns_of nsG, ⟨mb, ns_of nsB, boots⟩, mc, ns_of c1, c2⟩
    have e0 : Env0 P w K mg (hidT s.heap H) callerA [] s H := by
      refine ⟨rfl, md, fun b o e => of_hidT e, ?_, trivial, fun b hb => ?_, hok, .of_eq nogen⟩
      · rw [hidT_size]; exact Nat.le_refl _
      · cases (show b ∈ ([] : List Addr) from hb)
    refine codeAny_mono ((F _ kb (ns_of nsG)).run callerA [] s H ⟨[.ref a], []⟩ [.ref a] [.ref a] _ room rfl e0 (bnd s (.ref a)) (.cons rfl .nil) (pure_ H hS)) fun r s' h => ?_
    cases r with
    | error e => exact False.elim h
    | ok fl =>
      cases fl with
      | next => exact False.elim h
      | brk => exact False.elim h
      | cont => exact False.elim h
      | ret u =>
        obtain ⟨v, H', os, bare, un, hok', rv, q⟩ := h
        have hv : v = .bl true := q
        subst hv
        obtain rfl : u = Value.bool true := rv
        refine ⟨rfl, OldK.of_keep fun b o e => ?_, os, bare⟩
        cases q : H b with
        | none => exact un.keep b o e q (fun z => by cases (show b ∈ ([] : List Addr) from z)) (by simp)
        | some u =>
          obtain ⟨_, ob, xs, rfl⟩ := only b u q
          have z2 := un.frzs b ob _ q
          obtain ⟨e1, _⟩ := hok b _ q
          obtain ⟨e2, _⟩ := hok' b _ z2
          rw [e] at e1
          cases e1
          exact e2
  cases hk : K.lookup a with
  | some o =>
    have e := inK a o hk
    rw [at_a] at e
    cases e
    refine main (fun _ => none) (.inr fun H' => .inr ⟨_, us.toArray, _, hk, rfl, rfl, rfl, by rw [List.size_toArray, len]; exact short, by simpa using rel⟩) (fun b u z => ?_) (fun b u z => ?_) fun ⟨u, z⟩ => ?_
    all_goals (have z' : (none : Option HO) = some u := z; cases z')
  | none =>
    refine main (scriptH a { cls := .type "list", data := .seq us.toArray } (ns.map V.int)) (.inl ⟨_, if_pos rfl⟩) (fun b u z => ?_) (fun b u z => ?_) fun _ => hk
    · unfold scriptH at z
      split at z
      · rename_i eb
        cases z
        subst eb
        exact ⟨at_a, by rw [List.length_map]; exact short, us, _, rel, at_a⟩
      · cases z
    · unfold scriptH at z
      split at z
      · rename_i eb
        cases z
        exact ⟨eb, _, _, rfl⟩
      · cases z
/-- the law, from what its def computes -/
theorem law_walk {l : PySem.W.OpenLaw} {n k : Nat} {q : Program} {loose : List Str} {XP : (Str → Option Value) → Heap → Prop} {d : DefRec} {p : Pg} {dl : Dn}
    (hn : l.most = some n) (hn2 : n ≤ sizeLine) (hdf : d.params.defaults = []) (hr : Room k callerA) (hg : p.good = true) (hl : findD d.name p.ds = some dl) (h1 : ∃ x, dl.ps = [x])
    (hp : ∀ ns : List Int, ns.length ≤ n → ∃ fin, p.calls k d.name [.fl (ns.map PyData.int)] = .ok (.w (.d (.bool true)), fin)) :
    PySem.W.WalkO q loose XP (fun _ h => ∃ K : PySem.W.Frag, K.In h ∧ He.SaysD p.facts (p.ds.map Dn.dd) K) l.row.toRowW d [] (fun f vs => PySem.call f vs) := by
  obtain ⟨x, hx⟩ := h1
  refine Att.attach_call hn hdf fun w s₀ s₁ mg mb fa o pm cd doc a vs ns G Y ho hd hcd hmg hobj hints hlen hgen => ?_
  obtain ⟨K, KX, c⟩ := Y
  obtain ⟨fd, FD, _, bd, key⟩ := prog_ok (P := l.prog) (w := w) c KX G.T.g hg k d.name dl hl
  obtain ⟨hm, hnm⟩ := findD_ok hl
  have ea : fa = He.ga K d.name := by
    have e := He.glo_ok KX G.T.g (fact_at c (List.mem_append_left _ (List.mem_append_left _ (List.mem_map_of_mem (f := fun d => He.Fa.glo d.name) hm))))
    rw [hnm] at e
    rw [hmg] at e
    cases e
    rfl
  subst ea
  rw [hx] at bd key
  refine script_call KX G.T.g G.T.b G.T.builtins G.T.nolimit hgen hobj hints (Nat.le_trans hlen hn2) hr (fun base _ _ => key base) (fun s u => ?_) fun H hS => ?_
  · exact bd s [u] rfl
  · obtain ⟨fin, hc⟩ := hp ns hlen
    refine ⟨rfl, [.fl (ns.map PyData.int)], fun _ => False, [], ⟨?_, .nil, by simp, fun _ z => by { rcases z with z | z <;> cases z }, fun _ z => False.elim z⟩, _, fin, hc, fun v H' F' T' o => ?_⟩
    · have dq : ∀ ns : List Int, DqAll K (Av (fun _ => False) [] []) H (ns.map V.int) (ns.map PyData.int) := fun ns => by
        induction ns with
        | nil => exact .nil
        | cons i ns ih => exact .cons (.int i) ih
      exact EnvR.val (F := []) (.fl hS (dq ns)) .nil
    · have x := res_d o.ms.res1
      cases x
      rfl
end Rf
end

section
set_option Elab.async false
set_option linter.all false
set_option maxRecDepth 10000
/-! The defs of a text, taken out of it. -/
namespace Rf
open PySem PySem.Spec PyProof.Rows L2
/-- the blocks within an expression -/
def blksE : Nat → Expr → List Scope
  | 0, _ => []
  | n + 1, e => match e with
    | .BoolOp _ vs _ => vs.flatMap (blksE n)
    | .BinOp a _ b _ => blksE n a ++ blksE n b
    | .UnaryOp _ a _ => blksE n a
    | .IfExp a b c _ => blksE n a ++ blksE n b ++ blksE n c
    | .Compare a _ bs _ => blksE n a ++ bs.flatMap (blksE n)
    | .Call f as kw _ => blksE n f ++ as.flatMap (blksE n) ++ kw.flatMap fun k => blksE n k.value
    | .Attribute a _ _ => blksE n a
    | .Subscript a b _ => blksE n a ++ blksE n b
    | .Slice a b c _ => (a.map (blksE n)).getD [] ++ (b.map (blksE n)).getD [] ++ (c.map (blksE n)).getD []
    | .Starred a _ => blksE n a
    | .List as _ => as.flatMap (blksE n)
    | .Tuple as _ _ => as.flatMap (blksE n)
    | .Set as _ _ => as.flatMap (blksE n)
    | .Dict ks vs _ => (ks.flatMap fun k => (k.map (blksE n)).getD []) ++ vs.flatMap (blksE n)
    | .ListComp a gs s _ => s :: (blksE n a ++ gs.flatMap fun g => blksE n g.iter ++ g.ifs.flatMap (blksE n))
    | .DictComp a b gs s _ => s :: (blksE n a ++ blksE n b ++ gs.flatMap fun g => blksE n g.iter ++ g.ifs.flatMap (blksE n))
    | _ => []
def blksS : Nat → Stmt → List Scope
  | 0, _ => []
  | n + 1, s => match s with
    | .Expr e _ => blksE 60 e
    | .Return (some e) _ => blksE 60 e
    | .Assign ts e _ => ts.flatMap (blksE 60) ++ blksE 60 e
    | .If t a b _ => blksE 60 t ++ a.flatMap (blksS n) ++ b.flatMap (blksS n)
    | .For t i a b _ => blksE 60 i ++ a.flatMap (blksS n) ++ b.flatMap (blksS n)
    | .While t a b _ => blksE 60 t ++ a.flatMap (blksS n) ++ b.flatMap (blksS n)
    | .Try a hs b c _ => a.flatMap (blksS n) ++ b.flatMap (blksS n) ++ c.flatMap (blksS n)
    | _ => []
/-- the names that are stored to -/
def putsE : Nat → Expr → List Str
  | 0, _ => []
  | n + 1, e => match e with
    | .Name x _ => [x]
    | .Tuple es _ _ => es.flatMap (putsE n)
    | .List es _ => es.flatMap (putsE n)
    | _ => []
def putsS : Nat → Stmt → List Str
  | 0, _ => []
  | n + 1, s => match s with
    | .Assign ts _ _ => ts.flatMap (putsE 5)
    | .AugAssign t _ _ _ => putsE 5 t
    | .If _ a b _ => a.flatMap (putsS n) ++ b.flatMap (putsS n)
    | .For t _ a b _ => putsE 5 t ++ a.flatMap (putsS n) ++ b.flatMap (putsS n)
    | .While _ a b _ => a.flatMap (putsS n) ++ b.flatMap (putsS n)
    | .Try a _ b c _ => a.flatMap (putsS n) ++ b.flatMap (putsS n) ++ c.flatMap (putsS n)
    | _ => []
def ownN (s : Scope) : List Str := s.names.filterMap fun y => match y.2 with
  | .local => some y.1
  | .cell => some y.1
  | _ => none
def addN (l : List Str) : List Str → List Str
  | [] => l
  | x :: xs => addN (if l.contains x then l else l ++ [x]) xs
def dnOf : Stmt → Option Dn
  | .FunctionDef name args body _ _ _ scope _ _ _ =>
    let ps := args.args.map (·.arg)
    let N := addN ps (ownN scope ++ (body.flatMap (blksS 40)).flatMap ownN)
    let put := body.flatMap (putsS 40)
    some ⟨name, args, body, scope, N, ps.map fun x => put.contains x⟩
  | _ => none
def gvOf : Stmt → Option (Str × Gv)
  | .Assign [.Name x _] (.Constant (.int i) _ _) _ => some (x, .int i)
  | .Assign [.Name x _] (.Constant (.str z) _ _) _ => if x = ("__name__" : Str) then none else some (x, .str z)
  | _ => none
/-- a name that the top binds -/
def boundN : Stmt → Option Str
  | .FunctionDef name _ _ _ _ _ _ _ _ _ => some name
  | .ClassDef name _ _ _ _ _ _ _ _ _ _ => some name
  | .Assign [.Name x _] _ _ => if x = ("__name__" : Str) then none else some x
  | _ => none
/-- the names of built-ins that are of use -/
def bltN : List Str := ["len", "int", "tuple", "list", "all", "any", "sum", "max", "min", "repr", "str", "bool", "isinstance", "range", "enumerate", "zip", "sorted", "set", "dict"]
def pgOf (p : Program) : Pg where
  ds := p.main.body.filterMap dnOf
  free := bltN
  gl := p.main.body.filterMap gvOf
end Rf
end

section
set_option Elab.async false
set_option linter.all false
set_option maxRecDepth 10000
/-! Pure reasoning: the meanings, one step at a time. -/
namespace Rf
open PySem
def rb {α β : Type} (x : Rs α) (k : α → Rs β) : Rs β := match x with
  | .ok a => k a
  | .fail => .fail
@[simp] theorem rb_ok {α β : Type} (a : α) (k : α → Rs β) : rb (.ok a) k = k a := rfl
@[simp] theorem rb_fail {α β : Type} (k : α → Rs β) : rb (.fail : Rs α) k = .fail := rfl
theorem bind_rb {α β : Type} (x : Rs α) (k : α → Rs β) : (x >>= k) = rb x k := by cases x <;> rfl
def okF (l : List Bool) : Okk := fun i => l.getD i true
/-! #### looking -/
def varR (o : Option (Option W)) (i : Nat) (env : Env) : Rs (R × Env) := match o with
  | some (some (.d x)) => .ok (.w (.d x), env)
  | some (some _) => .ok (.al i [], env)
  | _ => .fail
@[simp] theorem varR_d {x : PyData} {i : Nat} {env : Env} : varR (some (some (.d x))) i env = .ok (.w (.d x), env) := rfl
@[simp] theorem varR_ol {x : List PyData} {i : Nat} {env : Env} : varR (some (some (.ol x))) i env = .ok (.al i [], env) := rfl
@[simp] theorem varR_fl {x : List PyData} {i : Nat} {env : Env} : varR (some (some (.fl x))) i env = .ok (.al i [], env) := rfl
def lookO : Option (Option W) → Option W
  | some (some w) => some w
  | _ => none
@[simp] theorem lookO_some {w : W} : lookO (some (some w)) = some w := rfl
theorem env_at {env : Env} {i : Nat} : Env.at env i [] = lookO env[i]? := by
  unfold Env.at lookO
  generalize env[i]? = o
  cases o with
  | none => rfl
  | some o =>
    cases o with
    | none => rfl
    | some w => cases w <;> rfl
@[simp] theorem look_w {env : Env} {w : W} : R.look env (.w w) = some w := rfl
@[simp] theorem look_al {env : Env} {i : Nat} : R.look env (.al i []) = lookO env[i]? := env_at
def viewW : Option W → Option PyData
  | some w => w.view
  | none => none
@[simp] theorem viewW_some {w : W} : viewW (some w) = w.view := rfl
@[simp] theorem view_w {env : Env} {w : W} : R.view env (.w w) = w.view := rfl
@[simp] theorem view_al {env : Env} {i : Nat} : R.view env (.al i []) = viewW (lookO env[i]?) := by
  show (Env.at env i []).bind W.view = _
  rw [env_at]
  cases lookO env[i]? <;> rfl
@[simp] theorem wview_d {x : PyData} : W.view (.d x) = some x := rfl
@[simp] theorem wview_ol {x : List PyData} : W.view (.ol x) = some (.list x) := rfl
@[simp] theorem plain_w {w : W} : R.plain (.w w) = true := rfl
@[simp] theorem plain_al {i : Nat} : R.plain (.al i []) = true := rfl
def retW (o : Option W) (e : Env) : Rs (R × Env) := match o with
  | some w => .ok (.w w, e)
  | none => .fail
@[simp] theorem retW_some {w : W} {e : Env} : retW (some w) e = .ok (.w w, e) := rfl
def chk {α : Type} (b : Bool) (x : Rs α) : Rs α := if b then x else .fail
@[simp] theorem chk_true {α : Type} {x : Rs α} : chk true x = x := rfl
/-! #### freezing -/
def frzO (o : Option (Option W)) (i : Nat) (env : Env) : Rs (R × Env) := match o with
  | some (some (.ol xs)) => .ok (.w (.d (.list xs)), env.set i (some (.d (.list xs))))
  | some (some (.d x)) => .ok (.w (.d x), env)
  | _ => .fail
@[simp] theorem frzO_ol {xs : List PyData} {i : Nat} {env : Env} : frzO (some (some (.ol xs))) i env = .ok (.w (.d (.list xs)), env.set i (some (.d (.list xs)))) := rfl
@[simp] theorem frzO_d {x : PyData} {i : Nat} {env : Env} : frzO (some (some (.d x))) i env = .ok (.w (.d x), env) := rfl
def kFrz : R × Env → Rs (R × Env)
  | (.w (.d x), e) => .ok (.w (.d x), e)
  | (.w (.ol xs), e) => .ok (.w (.d (.list xs)), e)
  | (.al i [], e) => frzO e[i]? i e
  | _ => .fail
@[simp] theorem kFrz_d {x : PyData} {e : Env} : kFrz (.w (.d x), e) = .ok (.w (.d x), e) := rfl
@[simp] theorem kFrz_ol {x : List PyData} {e : Env} : kFrz (.w (.ol x), e) = .ok (.w (.d (.list x)), e) := rfl
@[simp] theorem kFrz_al {i : Nat} {e : Env} : kFrz (.al i [], e) = frzO e[i]? i e := rfl
theorem frz_eq (f : Ev) (env : Env) : fFrz f env = rb (f env) kFrz := by
  unfold fFrz
  rw [bind_rb]
  cases f env with
  | fail => rfl
  | ok p =>
    obtain ⟨r, e⟩ := p
    show (froz r e >>= _) = kFrz (r, e)
    cases r with
    | w x => cases x <;> rfl
    | al i p =>
      cases p with
      | nil =>
        show ((match e[i]? with | some (some (.ol xs)) => Rs.ok (.list xs, e.set i (some (.d (.list xs)))) | some (some (.d x)) => .ok (x, e) | _ => .fail) >>= _) = frzO e[i]? i e
        unfold frzO
        split <;> rfl
      | cons _ _ => rfl
/-! #### what an expression means -/
section
variable (cal : Str → Call)
def opR (o : BOp) (x y : Option PyData) (e : Env) : Rs (R × Env) := match x, y with
  | some x, some y => retW (o.sem x y) e
  | _, _ => .fail
@[simp] theorem opR_some {o : BOp} {x y : PyData} {e : Env} : opR o (some x) (some y) e = retW (o.sem x y) e := rfl
def kOp2 (o : BOp) (q : Bool) (ra : R) : R × Env → Rs (R × Env) := fun p => chk (ra.plain || q) (opR o (ra.view p.2) (p.1.view p.2) p.2)
@[simp] theorem kOp2_ap {o : BOp} {q : Bool} {ra r : R} {e : Env} : kOp2 o q ra (r, e) = chk (ra.plain || q) (opR o (ra.view e) (r.view e) e) := rfl
def kOp (o : BOp) (b : ME) : R × Env → Rs (R × Env) := fun p => rb (b.den cal p.2) (kOp2 o b.q p.1)
@[simp] theorem kOp_ap {o : BOp} {b : ME} {r : R} {e : Env} : kOp cal o b (r, e) = rb (b.den cal e) (kOp2 o b.q r) := rfl
@[simp] theorem den_op {o : BOp} {a b : ME} {env : Env} : ME.den cal (.op o a b) env = rb (a.den cal env) (kOp cal o b) := by
  show f2 o.sem (a.den cal) (b.den cal) b.q env = _
  unfold f2
  rw [bind_rb]
  cases a.den cal env with
  | fail => rfl
  | ok p =>
    obtain ⟨r, e⟩ := p
    simp only [rb_ok, kOp_ap, bind_rb]
    cases b.den cal e with
    | fail => rfl
    | ok p2 =>
      obtain ⟨r2, e2⟩ := p2
      simp only [rb_ok, kOp2_ap]
      unfold need chk opR
      cases (r.plain || b.q) with
      | false => rfl
      | true =>
        simp only [if_true, rb_ok]
        cases r.view e2 with
        | none => rfl
        | some x =>
          simp only [Rs.of, rb_ok]
          cases r2.view e2 with
          | none => rfl
          | some y =>
            simp only [Rs.of, rb_ok]
            cases o.sem x y <;> rfl
@[simp] theorem den_dat {x : PyData} {env : Env} : ME.den cal (.dat x) env = .ok (.w (.d x), env) := rfl
@[simp] theorem den_var {i : Nat} {env : Env} : ME.den cal (.var i) env = varR env[i]? i env := by
  show fVar i env = _
  unfold fVar varR
  generalize env[i]? = o
  cases o with
  | none => rfl
  | some o =>
    cases o with
    | none => rfl
    | some w => cases w <;> rfl
def kNeg : R × Env → Rs (R × Env)
  | (.w (.d (.int i)), e) => .ok (.w (.d (.int (-i))), e)
  | _ => .fail
@[simp] theorem kNeg_ap {i : Int} {e : Env} : kNeg (.w (.d (.int i)), e) = .ok (.w (.d (.int (-i))), e) := rfl
@[simp] theorem den_neg {a : ME} {env : Env} : ME.den cal (.neg a) env = rb (a.den cal env) kNeg := by
  show fNeg (a.den cal) env = _
  unfold fNeg
  rw [bind_rb]
  cases a.den cal env with
  | fail => rfl
  | ok p =>
    obtain ⟨r, e⟩ := p
    simp only [rb_ok]
    unfold kNeg
    split <;> simp_all
/-- a test's answer -/
def kTest : R × Env → Rs (Bool × Env)
  | (.w (.d (.bool b)), e) => .ok (b, e)
  | _ => .fail
@[simp] theorem kTest_ap {b : Bool} {e : Env} : kTest (.w (.d (.bool b)), e) = .ok (b, e) := rfl
theorem test_eq (f : Ev) (env : Env) : fTest f env = rb (f env) kTest := by
  unfold fTest
  rw [bind_rb]
  cases f env with
  | fail => rfl
  | ok p =>
    obtain ⟨r, e⟩ := p
    simp only [rb_ok]
    unfold kTest
    split <;> simp_all
def kInv : Bool × Env → Rs (R × Env) := fun p => .ok (.w (.d (.bool (!p.1))), p.2)
@[simp] theorem kInv_ap {b : Bool} {e : Env} : kInv (b, e) = .ok (.w (.d (.bool (!b))), e) := rfl
@[simp] theorem den_inv {a : ME} {env : Env} : ME.den cal (.inv a) env = rb (rb (a.den cal env) kTest) kInv := by
  show fNot (a.den cal) env = _
  unfold fNot
  rw [bind_rb, test_eq]; rfl
def kBoth (b : ME) : Bool × Env → Rs (R × Env) := fun p => if p.1 then b.den cal p.2 else .ok (.w (.d (.bool false)), p.2)
@[simp] theorem kBoth_ap {b : ME} {c : Bool} {e : Env} : kBoth cal b (c, e) = if c = true then b.den cal e else .ok (.w (.d (.bool false)), e) := rfl
@[simp] theorem den_both {a b : ME} {env : Env} : ME.den cal (.both a b) env = rb (rb (a.den cal env) kTest) (kBoth cal b) := by
  show fAnd (a.den cal) (b.den cal) env = _
  unfold fAnd
  rw [bind_rb, test_eq]; rfl
def kAlt (b : ME) : Bool × Env → Rs (R × Env) := fun p => if p.1 then .ok (.w (.d (.bool true)), p.2) else b.den cal p.2
@[simp] theorem kAlt_ap {b : ME} {c : Bool} {e : Env} : kAlt cal b (c, e) = if c = true then .ok (.w (.d (.bool true)), e) else b.den cal e := rfl
@[simp] theorem den_alt {a b : ME} {env : Env} : ME.den cal (.alt a b) env = rb (rb (a.den cal env) kTest) (kAlt cal b) := by
  show fOr (a.den cal) (b.den cal) env = _
  unfold fOr
  rw [bind_rb, test_eq]; rfl
def kIfe (a b : ME) : Bool × Env → Rs (R × Env) := fun p => if p.1 then a.den cal p.2 else b.den cal p.2
@[simp] theorem kIfe_ap {a b : ME} {c : Bool} {e : Env} : kIfe cal a b (c, e) = if c = true then a.den cal e else b.den cal e := rfl
@[simp] theorem den_ife {t : MT} {a b : ME} {env : Env} : ME.den cal (.ife t a b) env = rb (t.den cal env) (kIfe cal a b) := by
  show fIf (t.den cal) (a.den cal) (b.den cal) env = _
  unfold fIf
  rw [bind_rb]; rfl
def ixR (x : Option W) (y : Option PyData) (e : Env) : Rs (R × Env) := match x, y with
  | some x, some y => retW (dIx x y) e
  | _, _ => .fail
@[simp] theorem ixR_some {x : W} {y : PyData} {e : Env} : ixR (some x) (some y) e = retW (dIx x y) e := rfl
def kIx2 (q : Bool) (ra : R) : R × Env → Rs (R × Env) := fun p => chk (ra.plain || q) (ixR (ra.look p.2) (p.1.view p.2) p.2)
@[simp] theorem kIx2_ap {q : Bool} {ra r : R} {e : Env} : kIx2 q ra (r, e) = chk (ra.plain || q) (ixR (ra.look e) (r.view e) e) := rfl
def kIx (b : ME) : R × Env → Rs (R × Env) := fun p => rb (b.den cal p.2) (kIx2 b.q p.1)
@[simp] theorem kIx_ap {b : ME} {r : R} {e : Env} : kIx cal b (r, e) = rb (b.den cal e) (kIx2 b.q r) := rfl
@[simp] theorem den_ix {a b : ME} {env : Env} : ME.den cal (.ix a b) env = rb (a.den cal env) (kIx cal b) := by
  show fW2 dIx (a.den cal) (b.den cal) b.q env = _
  unfold fW2
  rw [bind_rb]
  cases a.den cal env with
  | fail => rfl
  | ok p =>
    obtain ⟨r, e⟩ := p
    simp only [rb_ok, kIx_ap, bind_rb]
    cases b.den cal e with
    | fail => rfl
    | ok p2 =>
      obtain ⟨r2, e2⟩ := p2
      simp only [rb_ok, kIx2_ap]
      unfold need chk ixR
      cases (r.plain || b.q) with
      | false => rfl
      | true =>
        simp only [if_true, rb_ok]
        cases r.look e2 with
        | none => rfl
        | some x =>
          simp only [Rs.of, rb_ok]
          cases r2.view e2 with
          | none => rfl
          | some y =>
            simp only [Rs.of, rb_ok]
            cases dIx x y <;> rfl
def kIsi (t : Ty) : R × Env → Rs (R × Env) := fun p => match p.1.look p.2 with
  | some w => (match isW t w with
    | some b => .ok (.w (.d (.bool b)), p.2)
    | none => .fail)
  | none => .fail
def isiR (t : Ty) (o : Option W) (e : Env) : Rs (R × Env) := match o with
  | some w => (match isW t w with
    | some b => .ok (.w (.d (.bool b)), e)
    | none => .fail)
  | none => .fail
@[simp] theorem kIsi_ap {t : Ty} {r : R} {e : Env} : kIsi t (r, e) = isiR t (r.look e) e := by
  unfold kIsi isiR
  rfl
@[simp] theorem den_isi {t : Ty} {a : ME} {env : Env} : ME.den cal (.isi t a) env = rb (a.den cal env) (kIsi t) := by
  show fIs t (a.den cal) env = _
  unfold fIs
  rw [bind_rb]
  cases a.den cal env with
  | fail => rfl
  | ok p =>
    obtain ⟨r, e⟩ := p
    simp only [rb_ok, bind_rb, kIsi_ap]
    unfold isiR
    cases r.look e with
    | none => rfl
    | some w =>
      simp only [Rs.of, rb_ok]
      cases isW t w <;> rfl
/-! #### arguments -/
def kCons2 (q : Bool) (r : R) : List R × Env → Rs (List R × Env) := fun p => chk (r.plain || q) (.ok (r :: p.1, p.2))
@[simp] theorem kCons2_ap {q : Bool} {r : R} {rs : List R} {e : Env} : kCons2 q r (rs, e) = chk (r.plain || q) (.ok (r :: rs, e)) := rfl
def kCons (as : MEs) : R × Env → Rs (List R × Env) := fun p => rb (as.den cal p.2) (kCons2 as.q p.1)
@[simp] theorem kCons_ap {as : MEs} {r : R} {e : Env} : kCons cal as (r, e) = rb (as.den cal e) (kCons2 as.q r) := rfl
theorem cons_eq (f : Ev) (g : Es) (q : Bool) (env : Env) : fCons f g q env = rb (f env) fun p => rb (g p.2) (kCons2 q p.1) := by
  unfold fCons
  rw [bind_rb]
  cases f env with
  | fail => rfl
  | ok p =>
    obtain ⟨r, e⟩ := p
    simp only [rb_ok, bind_rb]
    cases g e with
    | fail => rfl
    | ok p2 =>
      obtain ⟨rs, e2⟩ := p2
      simp only [rb_ok, kCons2_ap]
      unfold need chk
      cases (r.plain || q) <;> rfl
@[simp] theorem dens_nil {env : Env} : MEs.den cal .nil env = .ok ([], env) := rfl
@[simp] theorem dens_cons {a : ME} {as : MEs} {env : Env} : MEs.den cal (.cons a as) env = rb (a.den cal env) (kCons cal as) := cons_eq _ _ _ _
def kConsF (as : MEs) : R × Env → Rs (List R × Env) := fun p => rb (as.denFz cal p.2) (kCons2 as.q p.1)
@[simp] theorem kConsF_ap {as : MEs} {r : R} {e : Env} : kConsF cal as (r, e) = rb (as.denFz cal e) (kCons2 as.q r) := rfl
@[simp] theorem densF_nil {env : Env} : MEs.denFz cal .nil env = .ok ([], env) := rfl
@[simp] theorem densF_cons {a : ME} {as : MEs} {env : Env} : MEs.denFz cal (.cons a as) env = rb (rb (a.den cal env) kFrz) (kConsF cal as) := by
  show fCons (fFrz (a.den cal)) (as.denFz cal) as.q env = _
  rw [cons_eq, frz_eq]; rfl
def kTup : List R × Env → Rs (R × Env) := fun p => match dataR p.1 with
  | some ds => chk (decide (ds.length ≤ SZ)) (.ok (.w (.d (.tuple ds)), p.2))
  | none => .fail
def tupR (o : Option (List PyData)) (e : Env) : Rs (R × Env) := match o with
  | some ds => chk (decide (ds.length ≤ SZ)) (.ok (.w (.d (.tuple ds)), e))
  | none => .fail
@[simp] theorem tupR_some {ds : List PyData} {e : Env} : tupR (some ds) e = chk (decide (ds.length ≤ SZ)) (.ok (.w (.d (.tuple ds)), e)) := rfl
@[simp] theorem kTup_ap {rs : List R} {e : Env} : kTup (rs, e) = tupR (dataR rs) e := rfl
@[simp] theorem den_tup {as : MEs} {env : Env} : ME.den cal (.tup as) env = rb (as.denFz cal env) kTup := by
  show fTup (as.denFz cal) env = _
  unfold fTup
  rw [bind_rb]
  cases as.denFz cal env with
  | fail => rfl
  | ok p =>
    obtain ⟨rs, e⟩ := p
    simp only [rb_ok, bind_rb, kTup_ap]
    unfold tupR
    cases dataR rs with
    | none => rfl
    | some ds =>
      simp only [Rs.of, rb_ok]
      unfold need chk
      cases decide (ds.length ≤ SZ) <;> rfl
def lstR (o : Option (List PyData)) (e : Env) : Rs (R × Env) := match o with
  | some ds => chk (decide (ds.length ≤ SZ)) (.ok (.w (.ol ds), e))
  | none => .fail
@[simp] theorem lstR_some {ds : List PyData} {e : Env} : lstR (some ds) e = chk (decide (ds.length ≤ SZ)) (.ok (.w (.ol ds), e)) := rfl
def kLst : List R × Env → Rs (R × Env) := fun p => lstR (dataR p.1) p.2
@[simp] theorem kLst_ap {rs : List R} {e : Env} : kLst (rs, e) = lstR (dataR rs) e := rfl
@[simp] theorem den_lst {as : MEs} {env : Env} : ME.den cal (.lst as) env = rb (as.denFz cal env) kLst := by
  show fLst (as.denFz cal) env = _
  unfold fLst
  rw [bind_rb]
  cases as.denFz cal env with
  | fail => rfl
  | ok p =>
    obtain ⟨rs, e⟩ := p
    simp only [rb_ok, bind_rb, kLst_ap]
    unfold lstR
    cases dataR rs with
    | none => rfl
    | some ds =>
      simp only [Rs.of, rb_ok]
      unfold need chk
      cases decide (ds.length ≤ SZ) <;> rfl
@[simp] theorem dataR_nil : dataR [] = some [] := rfl
@[simp] theorem dataR_cons {x : PyData} {rs : List R} : dataR (.w (.d x) :: rs) = (dataR rs).map (x :: ·) := rfl
end
end Rf
end

section
set_option Elab.async false
set_option linter.all false
set_option maxRecDepth 10000
/-! .. slices, calls, comprehensions, statements. -/
namespace Rf
open PySem
section
variable (cal : Str → Call)
/-! #### slices -/
def parR (o : Option PyData) (e : Env) : Rs (Option Int × Env) := match o with
  | some (.int i) => .ok (some i, e)
  | _ => .fail
@[simp] theorem parR_int {i : Int} {e : Env} : parR (some (.int i)) e = .ok (some i, e) := rfl
def kPar : R × Env → Rs (Option Int × Env) := fun p => parR (p.1.view p.2) p.2
@[simp] theorem kPar_ap {r : R} {e : Env} : kPar (r, e) = parR (r.view e) e := rfl
@[simp] theorem denP_none {env : Env} : MP.den cal .none env = .ok (none, env) := rfl
@[simp] theorem denP_some {a : ME} {env : Env} : MP.den cal (.some a) env = rb (a.den cal env) kPar := by
  show fPart (a.den cal) env = _
  unfold fPart
  rw [bind_rb]
  cases a.den cal env with
  | fail => rfl
  | ok p =>
    obtain ⟨r, e⟩ := p
    simp only [rb_ok, kPar_ap]
    unfold parR
    generalize r.view e = o
    cases o with
    | none => rfl
    | some d => cases d <;> rfl
def slR (x : Option W) (lo hi : Option Int) (e : Env) : Rs (R × Env) := match x with
  | some x => retW (oSl x lo hi) e
  | none => .fail
@[simp] theorem slR_some {x : W} {lo hi : Option Int} {e : Env} : slR (some x) lo hi e = retW (oSl x lo hi) e := rfl
def kSl3 (q : Bool) (r : R) (lo : Option Int) : Option Int × Env → Rs (R × Env) := fun p => chk (r.plain || q) (slR (r.look p.2) lo p.1 p.2)
@[simp] theorem kSl3_ap {q : Bool} {r : R} {lo hi : Option Int} {e : Env} : kSl3 q r lo (hi, e) = chk (r.plain || q) (slR (r.look e) lo hi e) := rfl
def kSl2 (hi : MP) (q : Bool) (r : R) : Option Int × Env → Rs (R × Env) := fun p => rb (hi.den cal p.2) (kSl3 q r p.1)
@[simp] theorem kSl2_ap {hi : MP} {q : Bool} {r : R} {lo : Option Int} {e : Env} : kSl2 cal hi q r (lo, e) = rb (hi.den cal e) (kSl3 q r lo) := rfl
def kSl (lo hi : MP) : R × Env → Rs (R × Env) := fun p => rb (lo.den cal p.2) (kSl2 cal hi (lo.q && hi.q) p.1)
@[simp] theorem kSl_ap {lo hi : MP} {r : R} {e : Env} : kSl cal lo hi (r, e) = rb (lo.den cal e) (kSl2 cal hi (lo.q && hi.q) r) := rfl
@[simp] theorem den_sl {a : ME} {lo hi : MP} {env : Env} : ME.den cal (.sl a lo hi) env = rb (a.den cal env) (kSl cal lo hi) := by
  show fSl (a.den cal) (lo.den cal) (hi.den cal) lo.q hi.q env = _
  unfold fSl
  rw [bind_rb]
  cases a.den cal env with
  | fail => rfl
  | ok p =>
    obtain ⟨r, e⟩ := p
    simp only [rb_ok, bind_rb, kSl_ap]
    cases lo.den cal e with
    | fail => rfl
    | ok p1 =>
      obtain ⟨l, e1⟩ := p1
      simp only [rb_ok, bind_rb, kSl2_ap]
      cases hi.den cal e1 with
      | fail => rfl
      | ok p2 =>
        obtain ⟨h, e2⟩ := p2
        simp only [rb_ok, kSl3_ap]
        unfold need chk slR
        cases (r.plain || (lo.q && hi.q)) with
        | false => rfl
        | true =>
          simp only [if_true, rb_ok]
          cases r.look e2 with
          | none => rfl
          | some x =>
            simp only [Rs.of, rb_ok]
            cases oSl x l h <;> rfl
/-! #### built-ins -/
@[simp] theorem looks_nil {env : Env} : looks env [] = some [] := rfl
def lkC (o : Option W) (l : Option (List W)) : Option (List W) := match o, l with
  | some w, some ws => some (w :: ws)
  | _, _ => none
@[simp] theorem lkC_some {w : W} {ws : List W} : lkC (some w) (some ws) = some (w :: ws) := rfl
@[simp] theorem looks_cons {env : Env} {r : R} {rs : List R} : looks env (r :: rs) = lkC (r.look env) (looks env rs) := rfl
def biR (f : Bi) (o : Option (List W)) (e : Env) : Rs (R × Env) := match o with
  | some ws => retW (f.sem ws) e
  | none => .fail
@[simp] theorem biR_some {f : Bi} {ws : List W} {e : Env} : biR f (some ws) e = retW (f.sem ws) e := rfl
def kBi (f : Bi) : List R × Env → Rs (R × Env) := fun p => biR f (looks p.2 p.1) p.2
@[simp] theorem kBi_ap {f : Bi} {rs : List R} {e : Env} : kBi f (rs, e) = biR f (looks e rs) e := rfl
@[simp] theorem den_bi {f : Bi} {as : MEs} {env : Env} : ME.den cal (.bi f as) env = rb (as.den cal env) (kBi f) := by
  show fCall f.sem (as.den cal) env = _
  unfold fCall
  rw [bind_rb]
  cases as.den cal env with
  | fail => rfl
  | ok p =>
    obtain ⟨rs, e⟩ := p
    simp only [rb_ok, bind_rb, kBi_ap]
    unfold biR
    cases looks e rs with
    | none => rfl
    | some ws =>
      simp only [Rs.of, rb_ok]
      cases f.sem ws <;> rfl
/-! #### calls of defs -/
def kLe (x : W) : List W × Env → Rs (List W × Env) := fun p => .ok (x :: p.1, p.2)
@[simp] theorem kLe_ap {x : W} {ws : List W} {e : Env} : kLe x (ws, e) = .ok (x :: ws, e) := rfl
def leR (o : Option (Option W)) (i : Nat) (rs : List R) (e : Env) : Rs (List W × Env) := match o with
  | some (some (.d x)) => rb (lendE rs e) (kLe (.d x))
  | some (some w) => rb (lendE rs (e.set i none)) (kLe w)
  | _ => .fail
@[simp] theorem leR_d {x : PyData} {i : Nat} {rs : List R} {e : Env} : leR (some (some (.d x))) i rs e = rb (lendE rs e) (kLe (.d x)) := rfl
@[simp] theorem leR_ol {x : List PyData} {i : Nat} {rs : List R} {e : Env} : leR (some (some (.ol x))) i rs e = rb (lendE rs (e.set i none)) (kLe (.ol x)) := rfl
@[simp] theorem leR_fl {x : List PyData} {i : Nat} {rs : List R} {e : Env} : leR (some (some (.fl x))) i rs e = rb (lendE rs (e.set i none)) (kLe (.fl x)) := rfl
@[simp] theorem lend_nil {e : Env} : lendE [] e = .ok ([], e) := rfl
@[simp] theorem lend_w {x : W} {rs : List R} {e : Env} : lendE (.w x :: rs) e = rb (lendE rs e) (kLe x) := by
  show (lendE rs e >>= _) = _
  rw [bind_rb]; rfl
@[simp] theorem lend_al {i : Nat} {rs : List R} {e : Env} : lendE (.al i [] :: rs) e = leR e[i]? i rs e := by
  rw [lendE]
  unfold leR
  generalize e[i]? = o
  cases o with
  | none => rfl
  | some o =>
    cases o with
    | none => rfl
    | some w => cases w <;> (simp only [bind_rb]; rfl)
def giR (o : Option (Option W)) (i : Nat) (rs : List R) (f : Option W) (fs : Env) (e : Env) : Rs Env := match o with
  | some (some (.d _)) => giveE rs fs e
  | some none => (match f with
    | some w => giveE rs fs (e.set i (some w))
    | none => giveE rs fs e)
  | _ => .fail
@[simp] theorem giR_d {x : PyData} {i : Nat} {rs : List R} {f : Option W} {fs e : Env} : giR (some (some (.d x))) i rs f fs e = giveE rs fs e := rfl
@[simp] theorem giR_w {w : W} {i : Nat} {rs : List R} {fs e : Env} : giR (some none) i rs (some w) fs e = giveE rs fs (e.set i (some w)) := rfl
@[simp] theorem giR_n {i : Nat} {rs : List R} {fs e : Env} : giR (some none) i rs none fs e = giveE rs fs e := rfl
@[simp] theorem give_nil {fs e : Env} : giveE [] fs e = .ok e := by cases fs <;> rfl
@[simp] theorem give_w {x : W} {rs : List R} {f : Option W} {fs e : Env} : giveE (.w x :: rs) (f :: fs) e = giveE rs fs e := rfl
@[simp] theorem give_al {i : Nat} {rs : List R} {f : Option W} {fs e : Env} : giveE (.al i [] :: rs) (f :: fs) e = giR e[i]? i rs f fs e := by
  rw [giveE.eq_def]
  dsimp only
  unfold giR
  generalize e[i]? = o
  cases o with
  | none => rfl
  | some o =>
    cases o with
    | none => cases f <;> rfl
    | some w => cases w <;> rfl
def backO (o : Option R) (p : List Str) : Rs R := match o with
  | some (.al i []) => .ok (.al i p)
  | _ => .fail
@[simp] theorem backO_al {i : Nat} {p : List Str} : backO (some (.al i [])) p = .ok (.al i p) := rfl
def kCal5 (e : Env) : R → Rs (R × Env) := fun r => .ok (r, e)
@[simp] theorem kCal5_ap {e : Env} {r : R} : kCal5 e r = .ok (r, e) := rfl
def kCal4 (rs : List R) (r : R) : Env → Rs (R × Env) := fun e => match r with
  | .w x => .ok (.w x, e)
  | .al k p => rb (backO rs[k]? p) (kCal5 e)
@[simp] theorem kCal4_w {rs : List R} {x : W} {e : Env} : kCal4 rs (.w x) e = .ok (.w x, e) := rfl
@[simp] theorem kCal4_al {rs : List R} {k : Nat} {p : List Str} {e : Env} : kCal4 rs (.al k p) e = rb (backO rs[k]? p) (kCal5 e) := rfl
def kCal3 (rs : List R) (e2 : Env) : R × Env → Rs (R × Env) := fun p => rb (giveE rs p.2 e2) (kCal4 rs p.1)
@[simp] theorem kCal3_ap {rs : List R} {e2 fs : Env} {r : R} : kCal3 rs e2 (r, fs) = rb (giveE rs fs e2) (kCal4 rs r) := rfl
def kCal2 (c : Call) (rs : List R) : List W × Env → Rs (R × Env) := fun p => rb (c p.1) (kCal3 rs p.2)
@[simp] theorem kCal2_ap {c : Call} {rs : List R} {ws : List W} {e : Env} : kCal2 c rs (ws, e) = rb (c ws) (kCal3 rs e) := rfl
def kCal (c : Call) : List R × Env → Rs (R × Env) := fun p => rb (lendE p.1 p.2) (kCal2 c p.1)
@[simp] theorem kCal_ap {c : Call} {rs : List R} {e : Env} : kCal c (rs, e) = rb (lendE rs e) (kCal2 c rs) := rfl
@[simp] theorem den_cal {x : Str} {as : MEs} {env : Env} : ME.den cal (.cal x as) env = rb (as.den cal env) (kCal (cal x)) := by
  show fDef (cal x) (as.den cal) env = _
  unfold fDef
  rw [bind_rb]
  cases as.den cal env with
  | fail => rfl
  | ok p =>
    obtain ⟨rs, e⟩ := p
    simp only [rb_ok, bind_rb, kCal_ap]
    cases lendE rs e with
    | fail => rfl
    | ok p2 =>
      obtain ⟨ws, e2⟩ := p2
      simp only [rb_ok, bind_rb, kCal2_ap]
      cases cal x ws with
      | fail => rfl
      | ok p3 =>
        obtain ⟨r, fs⟩ := p3
        simp only [rb_ok, bind_rb, kCal3_ap]
        cases giveE rs fs e2 with
        | fail => rfl
        | ok e3 =>
          cases r with
          | w x => rfl
          | al k p =>
            simp only [rb_ok, bind_rb, kCal4_al]
            have : backR rs k p = backO rs[k]? p := by
              unfold backR backO
              generalize rs[k]? = o
              cases o with
              | none => rfl
              | some r =>
                cases r with
                | w _ => rfl
                | al _ p2 => cases p2 <;> rfl
            rw [this]
            cases backO rs[k]? p <;> rfl
/-! #### append -/
def appO (l : Option (Option W)) (o : Option (Option W)) (i : Nat) (x : PyData) (e : Env) : Rs (R × Env) := match l, o with
  | some (some (.ol _)), some (some (.ol xs)) => chk (decide (xs.length < SZ)) (.ok (.w (.d .none), e.set i (some (.ol (xs ++ [x])))))
  | _, _ => .fail
@[simp] theorem appO_ol {ys xs : List PyData} {i : Nat} {x : PyData} {e : Env} : appO (some (some (.ol ys))) (some (some (.ol xs))) i x e = chk (decide (xs.length < SZ)) (.ok (.w (.d .none), e.set i (some (.ol (xs ++ [x]))))) := rfl
def kApp2 (ro : R) (e1 : Env) : R × Env → Rs (R × Env) := fun p => match ro, p.1 with
  | .al i [], .w (.d x) => appO e1[i]? p.2[i]? i x p.2
  | _, _ => .fail
@[simp] theorem kApp2_ap {i : Nat} {e1 : Env} {x : PyData} {e : Env} : kApp2 (.al i []) e1 (.w (.d x), e) = appO e1[i]? e[i]? i x e := rfl
def kApp (a : ME) : R × Env → Rs (R × Env) := fun p => rb (rb (a.den cal p.2) kFrz) (kApp2 p.1 p.2)
@[simp] theorem kApp_ap {a : ME} {r : R} {e : Env} : kApp cal a (r, e) = rb (rb (a.den cal e) kFrz) (kApp2 r e) := rfl
@[simp] theorem den_app {o a : ME} {env : Env} : ME.den cal (.app o a) env = rb (o.den cal env) (kApp cal a) := by
  show fApp (o.den cal) (a.den cal) env = _
  unfold fApp
  rw [bind_rb]
  cases o.den cal env with
  | fail => rfl
  | ok p =>
    obtain ⟨ro, e1⟩ := p
    simp only [rb_ok, bind_rb, kApp_ap, frz_eq]
    cases rb (a.den cal e1) kFrz with
    | fail => rfl
    | ok p2 =>
      obtain ⟨r, e2⟩ := p2
      simp only [rb_ok]
      cases ro with
      | w _ => cases r <;> rfl
      | al i p =>
        cases p with
        | cons _ _ => cases r <;> rfl
        | nil =>
          cases r with
          | al _ _ => rfl
          | w w =>
            cases w with
            | d x =>
              simp only [kApp2_ap]
              unfold appO isOl
              generalize e1[i]? = o1
              generalize e2[i]? = o2
              cases o2 with
              | none => cases o1 with
                | none => rfl
                | some o => cases o with
                  | none => rfl
                  | some w => cases w <;> rfl
              | some o =>
                cases o with
                | none => cases o1 with
                  | none => rfl
                  | some o => cases o with
                    | none => rfl
                    | some w => cases w <;> rfl
                | some w =>
                  cases w with
                  | ol xs =>
                    cases o1 with
                    | none => rfl
                    | some o => cases o with
                      | none => rfl
                      | some w => cases w <;> (simp only [need, chk, bind_rb]; try rfl) <;> (cases decide (xs.length < SZ) <;> rfl)
                  | _ => cases o1 with
                    | none => rfl
                    | some o => cases o with
                      | none => rfl
                      | some w => cases w <;> rfl
            | _ => rfl
/-! #### what is walked -/
def seqR : R × Env → Rs ((List PyData × List PyData) × Env)
  | (.w (.d (.list xs)), e) => .ok (([.list xs], xs), e)
  | (.w (.d (.tuple xs)), e) => .ok (([.tuple xs], xs), e)
  | (.w (.d (.str z)), e) => .ok (([], charsD z), e)
  | _ => .fail
@[simp] theorem seqR_l {xs : List PyData} {e : Env} : seqR (.w (.d (.list xs)), e) = .ok (([.list xs], xs), e) := rfl
@[simp] theorem seqR_t {xs : List PyData} {e : Env} : seqR (.w (.d (.tuple xs)), e) = .ok (([.tuple xs], xs), e) := rfl
@[simp] theorem seqR_s {z : Str} {e : Env} : seqR (.w (.d (.str z)), e) = .ok (([], charsD z), e) := rfl
@[simp] theorem denI_seq {a : ME} {env : Env} : MI.den cal (.seq a) env = rb (rb (a.den cal env) kFrz) seqR := by
  show vPlain (a.den cal) env = _
  unfold vPlain
  rw [bind_rb, frz_eq]
  cases rb (a.den cal env) kFrz with
  | fail => rfl
  | ok p =>
    obtain ⟨r, e⟩ := p
    simp only [rb_ok]
    unfold seqR
    split <;> simp_all
def enmR : R × Env → Rs ((List PyData × List PyData) × Env)
  | (.w (.d (.list xs)), e) => .ok (([.list xs], enumD xs), e)
  | (.w (.d (.tuple xs)), e) => .ok (([.tuple xs], enumD xs), e)
  | _ => .fail
@[simp] theorem enmR_t {xs : List PyData} {e : Env} : enmR (.w (.d (.tuple xs)), e) = .ok (([.tuple xs], enumD xs), e) := rfl
@[simp] theorem enmR_l {xs : List PyData} {e : Env} : enmR (.w (.d (.list xs)), e) = .ok (([.list xs], enumD xs), e) := rfl
@[simp] theorem denI_enm {a : ME} {env : Env} : MI.den cal (.enm a) env = rb (rb (a.den cal env) kFrz) enmR := by
  show vEnumA (a.den cal) env = _
  unfold vEnumA
  rw [bind_rb, frz_eq]
  cases rb (a.den cal env) kFrz with
  | fail => rfl
  | ok p =>
    obtain ⟨r, e⟩ := p
    simp only [rb_ok]
    unfold enmR
    split <;> simp_all
def rngR : R × Env → Rs ((List PyData × List PyData) × Env)
  | (.w (.d (.int j)), e) => chk (decide (j.natAbs < RG)) (.ok (([], rangeD 0 j), e))
  | _ => .fail
@[simp] theorem rngR_ap {j : Int} {e : Env} : rngR (.w (.d (.int j)), e) = chk (decide (j.natAbs < RG)) (.ok (([], rangeD 0 j), e)) := rfl
@[simp] theorem denI_rng {a : ME} {env : Env} : MI.den cal (.rng1 a) env = rb (a.den cal env) rngR := by
  show vRange1 (fCons (a.den cal) fNil true) env = _
  unfold vRange1
  rw [bind_rb, cons_eq]
  cases a.den cal env with
  | fail => rfl
  | ok p =>
    obtain ⟨r, e⟩ := p
    have h : (r.plain || true) = true := by simp
    simp only [rb_ok, fNil, kCons2_ap, h, chk_true]
    unfold rngR
    cases r with
    | al _ _ => rfl
    | w w =>
      cases w with
      | d x =>
        cases x with
        | int j =>
          simp only [need, chk, bind_rb]
          cases (decide (j.natAbs < RG)) <;> rfl
        | _ => rfl
      | _ => rfl
/-! #### comprehensions -/
def kCm2 (own : List Nat) (e1 : Env) : List PyData × Env → Rs (R × Env) := fun p => .ok (.w (.ol p.1), backE e1 own p.2)
@[simp] theorem kCm2_ap {own : List Nat} {e1 e2 : Env} {ys : List PyData} : kCm2 own e1 (ys, e2) = .ok (.w (.ol ys), backE e1 own e2) := rfl
def kCm (own : List Nat) (tg : Tg) (c : MT) (b : ME) : (List PyData × List PyData) × Env → Rs (R × Env) := fun p => chk (own.all (freeSlot p.2)) (rb (compL own (Tg.put (fun _ => true) tg) (c.den cal) (b.den cal) p.1.2 (wipeE p.2 own) []) (kCm2 own p.2))
@[simp] theorem kCm_ap {own : List Nat} {tg : Tg} {c : MT} {b : ME} {ds xs : List PyData} {e : Env} : kCm cal own tg c b ((ds, xs), e) = chk (own.all (freeSlot e)) (rb (compL own (Tg.put (fun _ => true) tg) (c.den cal) (b.den cal) xs (wipeE e own) []) (kCm2 own e)) := rfl
@[simp] theorem den_comp {own : List Nat} {tg : Tg} {it : MI} {c : MT} {b : ME} {env : Env} : ME.den cal (.comp own tg it c b) env = rb (it.den cal env) (kCm cal own tg c b) := by
  show fComp own (Tg.put (fun _ => true) tg) (it.den cal) (c.den cal) (b.den cal) env = _
  unfold fComp
  rw [bind_rb]
  cases it.den cal env with
  | fail => rfl
  | ok p =>
    obtain ⟨⟨ds, xs⟩, e⟩ := p
    simp only [rb_ok, kCm_ap, need, chk, bind_rb]
    cases own.all (freeSlot e) with
    | false => rfl
    | true =>
      simp only [if_true, rb_ok]
      cases compL own (Tg.put (fun _ => true) tg) (c.den cal) (b.den cal) xs (wipeE e own) [] <;> rfl
def kCmo (own : List Nat) (e1 : Env) (i : Nat) (xs : List PyData) : List PyData × Env → Rs (R × Env) := fun p => match (backE e1 own p.2)[i]? with
  | some none => .ok (.w (.ol p.1), (backE e1 own p.2).set i (some (.ol xs)))
  | _ => .fail
/-- over an own list, that stays so -/
theorem den_compo {own : List Nat} {tg : Tg} {i : Nat} {xs : List PyData} {c : MT} {b : ME} {env : Env} (h : env[i]? = some (some (.ol xs))) : ME.den cal (.compo own tg i c b) env = chk (!own.contains i && own.all (freeSlot (env.set i none))) (rb (compL own (Tg.put (fun _ => true) tg) (c.den cal) (b.den cal) xs (wipeE (env.set i none) own) []) (kCmo own (env.set i none) i xs)) := by
  show fCompV own (Tg.put (fun _ => true) tg) i (c.den cal) (b.den cal) env = _
  unfold fCompV fCompH
  simp only [h, need, chk, bind_rb]
  cases (!own.contains i && own.all (freeSlot (env.set i none))) with
  | false => rfl
  | true =>
    simp only [if_true, rb_ok]
    cases compL own (Tg.put (fun _ => true) tg) (c.den cal) (b.den cal) xs (wipeE (env.set i none) own) [] <;> rfl
/-! #### tests -/
@[simp] theorem denT_yes {env : Env} : MT.den cal .yes env = .ok (true, env) := rfl
@[simp] theorem denT_tst {a : ME} {env : Env} : MT.den cal (.tst a) env = rb (a.den cal env) kTest := test_eq _ _
def truR (o : Option PyData) (e : Env) : Rs (Bool × Env) := match o with
  | some x => (match truthD x with
    | some b => .ok (b, e)
    | none => .fail)
  | none => .fail
@[simp] theorem truR_b {b : Bool} {e : Env} : truR (some (.bool b)) e = .ok (b, e) := rfl
def kTru : R × Env → Rs (Bool × Env) := fun p => truR (p.1.view p.2) p.2
@[simp] theorem kTru_ap {r : R} {e : Env} : kTru (r, e) = truR (r.view e) e := rfl
@[simp] theorem denT_tru {a : ME} {env : Env} : MT.den cal (.tru a) env = rb (a.den cal env) kTru := by
  show fTruth (a.den cal) env = _
  unfold fTruth
  rw [bind_rb]
  cases a.den cal env with
  | fail => rfl
  | ok p =>
    obtain ⟨r, e⟩ := p
    simp only [rb_ok, bind_rb, kTru_ap]
    unfold truR
    cases r.view e with
    | none => rfl
    | some x =>
      simp only [Rs.of, rb_ok]
      cases truthD x <;> rfl
def kTinv : Bool × Env → Rs (Bool × Env) := fun p => .ok (!p.1, p.2)
@[simp] theorem kTinv_ap {b : Bool} {e : Env} : kTinv (b, e) = .ok (!b, e) := rfl
@[simp] theorem denT_inv {t : MT} {env : Env} : MT.den cal (.inv t) env = rb (t.den cal env) kTinv := by
  show fNotT (t.den cal) env = _
  unfold fNotT
  rw [bind_rb]; rfl
def kTand (u : MT) : Bool × Env → Rs (Bool × Env) := fun p => if p.1 then u.den cal p.2 else .ok (false, p.2)
@[simp] theorem kTand_ap {u : MT} {b : Bool} {e : Env} : kTand cal u (b, e) = if b = true then u.den cal e else .ok (false, e) := rfl
@[simp] theorem denT_both {t u : MT} {env : Env} : MT.den cal (.both t u) env = rb (t.den cal env) (kTand cal u) := by
  show fAndT (t.den cal) (u.den cal) env = _
  unfold fAndT
  rw [bind_rb]; rfl
def kTor (u : MT) : Bool × Env → Rs (Bool × Env) := fun p => if p.1 then .ok (true, p.2) else u.den cal p.2
@[simp] theorem kTor_ap {u : MT} {b : Bool} {e : Env} : kTor cal u (b, e) = if b = true then .ok (true, e) else u.den cal e := rfl
@[simp] theorem denT_alt {t u : MT} {env : Env} : MT.den cal (.alt t u) env = rb (t.den cal env) (kTor cal u) := by
  show fOrT (t.den cal) (u.den cal) env = _
  unfold fOrT
  rw [bind_rb]; rfl
/-! #### a op b op' c -/
def kCh4 (o' : BOp) (q : Bool) (ra r : R) : R × Env → Rs (R × Env) := fun p => chk ((ra.plain && r.plain) || q) (opR o' (r.view p.2) (p.1.view p.2) p.2)
@[simp] theorem kCh4_ap {o' : BOp} {q : Bool} {ra r rc : R} {e : Env} : kCh4 o' q ra r (rc, e) = chk ((ra.plain && r.plain) || q) (opR o' (r.view e) (rc.view e) e) := rfl
def kCh3 (o' : BOp) (c : ME) (ra r : R) : R × Env → Rs (R × Env) := fun p => match p.1 with
  | .w (.d (.bool true)) => rb (c.den cal p.2) (kCh4 o' c.q ra r)
  | .w (.d (.bool false)) => .ok (.w (.d (.bool false)), p.2)
  | _ => .fail
theorem kCh3_b {o' : BOp} {c : ME} {ra r : R} {b : Bool} {e : Env} : kCh3 cal o' c ra r (.w (.d (.bool b)), e) = if b = true then rb (c.den cal e) (kCh4 o' c.q ra r) else .ok (.w (.d (.bool false)), e) := by
  cases b <;> rfl
def kCh2 (o o' : BOp) (q : Bool) (c : ME) (ra : R) : R × Env → Rs (R × Env) := fun p => chk (ra.plain || q) (rb (opR o (ra.view p.2) (p.1.view p.2) p.2) (kCh3 cal o' c ra p.1))
@[simp] theorem kCh2_ap {o o' : BOp} {q : Bool} {c : ME} {ra r : R} {e : Env} : kCh2 cal o o' q c ra (r, e) = chk (ra.plain || q) (rb (opR o (ra.view e) (r.view e) e) (kCh3 cal o' c ra r)) := rfl
def kCh (o o' : BOp) (b c : ME) : R × Env → Rs (R × Env) := fun p => rb (b.den cal p.2) (kCh2 cal o o' b.q c p.1)
@[simp] theorem kCh_ap {o o' : BOp} {b c : ME} {r : R} {e : Env} : kCh cal o o' b c (r, e) = rb (b.den cal e) (kCh2 cal o o' b.q c r) := rfl
@[simp] theorem den_chain {o o' : BOp} {a b c : ME} {env : Env} : ME.den cal (.chain o o' a b c) env = rb (a.den cal env) (kCh cal o o' b c) := by
  show fChain o.sem o'.sem (a.den cal) (b.den cal) (c.den cal) b.q c.q env = _
  unfold fChain
  rw [bind_rb]
  cases a.den cal env with
  | fail => rfl
  | ok p =>
    obtain ⟨ra, e⟩ := p
    simp only [rb_ok, bind_rb, kCh_ap]
    cases b.den cal e with
    | fail => rfl
    | ok p2 =>
      obtain ⟨r, e2⟩ := p2
      simp only [rb_ok, kCh2_ap, need, chk, bind_rb]
      cases (ra.plain || b.q) with
      | false => rfl
      | true =>
        simp only [if_true, rb_ok]
        unfold opR
        cases ra.view e2 with
        | none => rfl
        | some x =>
          simp only [Rs.of, rb_ok]
          cases r.view e2 with
          | none => rfl
          | some y =>
            simp only [Rs.of, rb_ok]
            cases o.sem x y with
            | none => rfl
            | some w =>
              simp only [retW_some, rb_ok]
              cases w with
              | d d =>
                cases d with
                | bool bb =>
                  cases bb with
                  | false => rfl
                  | true =>
                    show rb _ _ = rb _ _
                    cases c.den cal e2 with
                    | fail => rfl
                    | ok p3 =>
                      obtain ⟨rc, e3⟩ := p3
                      simp only [rb_ok, kCh4_ap, chk]
                      cases ((ra.plain && r.plain) || c.q) with
                      | false => rfl
                      | true =>
                        simp only [if_true, rb_ok]
                        unfold opR
                        cases r.view e3 with
                        | none => rfl
                        | some y' =>
                          simp only [rb_ok]
                          cases rc.view e3 with
                          | none => rfl
                          | some z =>
                            simp only [rb_ok]
                            cases o'.sem y' z <;> rfl
                | _ => rfl
              | _ => rfl
end
end Rf
end

section
set_option Elab.async false
set_option linter.all false
set_option maxRecDepth 10000
/-! .. statements, the run of a def; what the operators give. -/
namespace Rf
open PySem
section
variable (cal : Str → Call) (ok : Okk)
def slot (b : Bool) (i : Nat) (x : W) (e : Env) : Rs Env := if b && decide (i < e.length) then .ok (e.set i (some x)) else .fail
theorem setSlot_eq {i : Nat} {x : W} {e : Env} : setSlot ok i x e = chk (ok i && decide (i < e.length)) (.ok (e.set i (some x))) := rfl
@[simp] theorem stm_pass {env : Env} : MSt.den cal ok .pass env = .ok (.nx, env) := rfl
@[simp] theorem stm_brk {env : Env} : MSt.den cal ok .brk env = .ok (.brk, env) := rfl
@[simp] theorem stm_cnt {env : Env} : MSt.den cal ok .cnt env = .ok (.cnt, env) := rfl
@[simp] theorem stm_retN {env : Env} : MSt.den cal ok .retN env = .ok (.ret (.w (.d .none)), env) := rfl
def kExp : R × Env → Rs (Fl × Env) := fun p => .ok (.nx, p.2)
@[simp] theorem kExp_ap {r : R} {e : Env} : kExp (r, e) = .ok (.nx, e) := rfl
@[simp] theorem stm_expr {a : ME} {env : Env} : MSt.den cal ok (.expr a) env = rb (a.den cal env) kExp := by
  show xExpr (a.den cal) env = _
  unfold xExpr
  rw [bind_rb]; rfl
def movO (b : Bool) (i : Nat) (p : List Str) (o : Option W) (e : Env) : Rs (Fl × Env) := if b then (match o with
  | some w => .ok (.ret (.w w), e.set i none)
  | none => .fail) else .ok (.ret (.al i p), e)
@[simp] theorem movO_t {i : Nat} {p : List Str} {w : W} {e : Env} : movO true i p (some w) e = .ok (.ret (.w w), e.set i none) := rfl
@[simp] theorem movO_f {i : Nat} {p : List Str} {o : Option W} {e : Env} : movO false i p o e = .ok (.ret (.al i p), e) := rfl
def kRet : R × Env → Rs (Fl × Env) := fun p => match p.1 with
  | .w x => .ok (.ret (.w x), p.2)
  | .al i q => movO (ok i) i q (Env.at p.2 i q) p.2
@[simp] theorem kRet_w {x : W} {e : Env} : kRet ok (.w x, e) = .ok (.ret (.w x), e) := rfl
@[simp] theorem kRet_al {i : Nat} {e : Env} : kRet ok (.al i [], e) = movO (ok i) i [] (lookO e[i]?) e := by
  show movO (ok i) i [] (Env.at e i []) e = _
  rw [env_at]
@[simp] theorem stm_ret {a : ME} {env : Env} : MSt.den cal ok (.ret a) env = rb (a.den cal env) (kRet ok) := by
  show xRet ok (a.den cal) env = _
  unfold xRet
  rw [bind_rb]
  cases a.den cal env with
  | fail => rfl
  | ok p =>
    obtain ⟨r, e⟩ := p
    simp only [rb_ok, bind_rb]
    cases r with
    | w x => rfl
    | al i q =>
      show rb (if ok i then _ else _) _ = movO (ok i) i q (Env.at e i q) e
      unfold movO
      cases ok i with
      | false => rfl
      | true =>
        simp only [if_true]
        cases Env.at e i q <;> rfl
def kTake : R × Env → Rs (W × Env) := fun p => match p.1 with
  | .w x => .ok (x, p.2)
  | r => rb (kFrz (r, p.2)) fun q => match q.1 with
    | .w (.d x) => .ok (.d x, q.2)
    | _ => .fail
@[simp] theorem kTake_w {x : W} {e : Env} : kTake (.w x, e) = .ok (x, e) := rfl
def kTk2 : R × Env → Rs (W × Env)
  | (.w (.d x), e) => .ok (.d x, e)
  | _ => .fail
@[simp] theorem kTk2_ap {x : PyData} {e : Env} : kTk2 (.w (.d x), e) = .ok (.d x, e) := rfl
@[simp] theorem kTake_al {i : Nat} {e : Env} : kTake (.al i [], e) = rb (frzO e[i]? i e) kTk2 := by
  show rb (frzO e[i]? i e) _ = _
  cases frzO e[i]? i e with
  | fail => rfl
  | ok p =>
    obtain ⟨r, e2⟩ := p
    simp only [rb_ok]
    cases r with
    | w x => cases x <;> rfl
    | al _ _ => rfl
theorem take_eq {r : R} {e : Env} : takeR r e = kTake (r, e) := by
  cases r with
  | w x => rfl
  | al i p =>
    show (froz (.al i p) e >>= _) = rb (kFrz (.al i p, e)) _
    rw [bind_rb]
    cases p with
    | cons _ _ => rfl
    | nil =>
      show rb (match e[i]? with | some (some (.ol xs)) => Rs.ok (.list xs, e.set i (some (.d (.list xs)))) | some (some (.d x)) => .ok (x, e) | _ => .fail) _ = rb (frzO e[i]? i e) _
      unfold frzO
      generalize e[i]? = o
      cases o with
      | none => rfl
      | some o =>
        cases o with
        | none => rfl
        | some w => cases w <;> rfl
def kNx : Env → Rs (Fl × Env) := fun e => .ok (.nx, e)
@[simp] theorem kNx_ap {e : Env} : kNx e = .ok (.nx, e) := rfl
def kSet2 (i : Nat) : W × Env → Rs (Fl × Env) := fun p => rb (setSlot ok i p.1 p.2) kNx
@[simp] theorem kSet2_ap {i : Nat} {x : W} {e : Env} : kSet2 ok i (x, e) = rb (chk (ok i && decide (i < e.length)) (.ok (e.set i (some x)))) kNx := rfl
@[simp] theorem stm_set {i : Nat} {a : ME} {env : Env} : MSt.den cal ok (.set i a) env = rb (rb (a.den cal env) kTake) (kSet2 ok i) := by
  show xSet ok i (a.den cal) env = _
  unfold xSet
  rw [bind_rb]
  cases a.den cal env with
  | fail => rfl
  | ok p =>
    obtain ⟨r, e⟩ := p
    simp only [rb_ok, bind_rb, take_eq]
    cases kTake (r, e) with
    | fail => rfl
    | ok p2 =>
      obtain ⟨x, e2⟩ := p2
      simp only [rb_ok, kSet2_ap, setSlot_eq]
      cases chk (ok i && decide (i < e2.length)) (Rs.ok (e2.set i (some x))) <;> rfl
def kAsg (t : Tg) : R × Env → Rs (Fl × Env)
  | (.w (.d d), e) => rb (t.put ok d e) kNx
  | _ => .fail
@[simp] theorem kAsg_ap {t : Tg} {d : PyData} {e : Env} : kAsg ok t (.w (.d d), e) = rb (t.put ok d e) kNx := rfl
@[simp] theorem stm_asg {t : Tg} {a : ME} {env : Env} : MSt.den cal ok (.asg t a) env = rb (rb (a.den cal env) kFrz) (kAsg ok t) := by
  show xAsg ok t (a.den cal) env = _
  unfold xAsg
  rw [bind_rb, frz_eq]
  cases rb (a.den cal env) kFrz with
  | fail => rfl
  | ok p =>
    obtain ⟨r, e⟩ := p
    simp only [rb_ok]
    cases r with
    | al _ _ => rfl
    | w x =>
      cases x with
      | d d =>
        show (t.put ok d e >>= _) = rb (t.put ok d e) kNx
        rw [bind_rb]; rfl
      | _ => rfl
@[simp] theorem put_name {i : Nat} {d : PyData} {e : Env} : Tg.put ok (.name i) d e = chk (ok i && decide (i < e.length)) (.ok (e.set i (some (.d d)))) := by
  unfold Tg.put
  rfl
@[simp] theorem put_tup {l : List Tg} {ds : List PyData} {e : Env} : Tg.put ok (.tup l) (.tuple ds) e = Tg.puts ok l ds e := by
  conv => lhs; unfold Tg.put
@[simp] theorem puts_nil {e : Env} : Tg.puts ok [] [] e = .ok e := by
  unfold Tg.puts; rfl
def kPuts (l : List Tg) (ds : List PyData) : Env → Rs Env := fun e => Tg.puts ok l ds e
@[simp] theorem kPuts_ap {l : List Tg} {ds : List PyData} {e : Env} : kPuts ok l ds e = Tg.puts ok l ds e := rfl
@[simp] theorem puts_cons {t : Tg} {l : List Tg} {d : PyData} {ds : List PyData} {e : Env} : Tg.puts ok (t :: l) (d :: ds) e = rb (t.put ok d e) (kPuts ok l ds) := by
  conv => lhs; unfold Tg.puts
  rw [bind_rb]; rfl
/-! #### several names -/
@[simp] theorem densT_nil {env : Env} : MEs.denTk cal .nil env = .ok ([], env) := rfl
def kW : W × Env → Rs (R × Env) := fun p => .ok (.w p.1, p.2)
@[simp] theorem kW_ap {x : W} {e : Env} : kW (x, e) = .ok (.w x, e) := rfl
def kConsT (as : MEs) : R × Env → Rs (List R × Env) := fun p => rb (as.denTk cal p.2) (kCons2 as.q p.1)
@[simp] theorem kConsT_ap {as : MEs} {r : R} {e : Env} : kConsT cal as (r, e) = rb (as.denTk cal e) (kCons2 as.q r) := rfl
@[simp] theorem densT_cons {a : ME} {as : MEs} {env : Env} : MEs.denTk cal (.cons a as) env = rb (rb (rb (a.den cal env) kTake) kW) (kConsT cal as) := by
  show fCons (fTk (a.den cal)) (as.denTk cal) as.q env = _
  rw [cons_eq]
  have : fTk (a.den cal) env = rb (rb (a.den cal env) kTake) kW := by
    unfold fTk
    rw [bind_rb]
    cases a.den cal env with
    | fail => rfl
    | ok p =>
      obtain ⟨r, e⟩ := p
      simp only [rb_ok, bind_rb, take_eq]
      cases kTake (r, e) <;> rfl
  rw [this]; rfl
@[simp] theorem slots_nil {e : Env} : setSlots ok [] [] e = .ok e := rfl
def kSlots (is : List Nat) (rs : List R) : Env → Rs Env := fun e => setSlots ok is rs e
@[simp] theorem kSlots_ap {is : List Nat} {rs : List R} {e : Env} : kSlots ok is rs e = setSlots ok is rs e := rfl
@[simp] theorem slots_cons {i : Nat} {is : List Nat} {x : W} {rs : List R} {e : Env} : setSlots ok (i :: is) (.w x :: rs) e = rb (chk (ok i && decide (i < e.length)) (.ok (e.set i (some x)))) (kSlots ok is rs) := by
  show (setSlot ok i x e >>= _) = _
  rw [bind_rb]; rfl
def kPar2 (is : List Nat) : List R × Env → Rs (Fl × Env) := fun p => rb (setSlots ok is p.1 p.2) kNx
@[simp] theorem kPar2_ap {is : List Nat} {rs : List R} {e : Env} : kPar2 ok is (rs, e) = rb (setSlots ok is rs e) kNx := rfl
@[simp] theorem stm_par {is : List Nat} {as : MEs} {env : Env} : MSt.den cal ok (.par is as) env = rb (as.denTk cal env) (kPar2 ok is) := by
  show xPars ok is (as.denTk cal) env = _
  unfold xPars
  rw [bind_rb]
  cases as.denTk cal env with
  | fail => rfl
  | ok p =>
    obtain ⟨rs, e⟩ := p
    simp only [rb_ok, bind_rb, kPar2_ap]
    cases setSlots ok is rs e <;> rfl
/-! #### stores -/
def kParT (is : List Nat) : List R × Env → Rs (Fl × Env) := fun p => chk (decide (p.1.length ≤ SZ)) (rb (setSlots ok is p.1 p.2) kNx)
@[simp] theorem kParT_ap {is : List Nat} {rs : List R} {e : Env} : kParT ok is (rs, e) = chk (decide (rs.length ≤ SZ)) (rb (setSlots ok is rs e) kNx) := rfl
@[simp] theorem stm_parT {is : List Nat} {as : MEs} {env : Env} : MSt.den cal ok (.parT is as) env = rb (as.denTk cal env) (kParT ok is) := by
  show xParT ok is (as.denTk cal) env = _
  unfold xParT
  rw [bind_rb]
  cases as.denTk cal env with
  | fail => rfl
  | ok p =>
    obtain ⟨rs, e⟩ := p
    simp only [rb_ok, bind_rb, kParT_ap, need, chk]
    cases decide (rs.length ≤ SZ) with
    | false => rfl
    | true =>
      simp only [if_true, rb_ok]
      cases setSlots ok is rs e <;> rfl
def stoJ (j : Option Nat) (i : Nat) (xs : List PyData) (x : PyData) (e : Env) : Rs (Fl × Env) := match j with
  | some j => .ok (.nx, e.set i (some (.ol (xs.set j x))))
  | none => .fail
@[simp] theorem stoJ_some {j i : Nat} {xs : List PyData} {x : PyData} {e : Env} : stoJ (some j) i xs x e = .ok (.nx, e.set i (some (.ol (xs.set j x)))) := rfl
def stoO (o : Option (Option W)) (i : Nat) (x : PyData) (k : Int) (e : Env) : Rs (Fl × Env) := match o with
  | some (some (.ol xs)) => stoJ (L2.ixN xs.length k) i xs x e
  | _ => .fail
@[simp] theorem stoO_ol {xs : List PyData} {i : Nat} {x : PyData} {k : Int} {e : Env} : stoO (some (some (.ol xs))) i x k e = stoJ (L2.ixN xs.length k) i xs x e := rfl
def kSto3 (rv ro : R) : R × Env → Rs (Fl × Env) := fun p => match rv, ro, p.1 with
  | .w (.d x), .al i [], .w (.d (.int k)) => stoO p.2[i]? i x k p.2
  | _, _, _ => .fail
@[simp] theorem kSto3_ap {x : PyData} {i : Nat} {k : Int} {e : Env} : kSto3 (.w (.d x)) (.al i []) (.w (.d (.int k)), e) = stoO e[i]? i x k e := rfl
def kSto2 (j : ME) (rv : R) : R × Env → Rs (Fl × Env) := fun p => rb (j.den cal p.2) (kSto3 rv p.1)
@[simp] theorem kSto2_ap {j : ME} {rv r : R} {e : Env} : kSto2 cal j rv (r, e) = rb (j.den cal e) (kSto3 rv r) := rfl
def kSto (o j : ME) : R × Env → Rs (Fl × Env) := fun p => rb (o.den cal p.2) (kSto2 cal j p.1)
@[simp] theorem kSto_ap {o j : ME} {r : R} {e : Env} : kSto cal o j (r, e) = rb (o.den cal e) (kSto2 cal j r) := rfl
@[simp] theorem stm_store {o j a : ME} {env : Env} : MSt.den cal ok (.store o j a) env = rb (rb (a.den cal env) kFrz) (kSto cal o j) := by
  show xStore (o.den cal) (j.den cal) (a.den cal) j.q env = _
  unfold xStore
  rw [bind_rb, frz_eq]
  cases rb (a.den cal env) kFrz with
  | fail => rfl
  | ok p =>
    obtain ⟨rv, e1⟩ := p
    simp only [rb_ok, bind_rb, kSto_ap]
    cases o.den cal e1 with
    | fail => rfl
    | ok p2 =>
      obtain ⟨ro, e2⟩ := p2
      simp only [rb_ok, bind_rb, kSto2_ap]
      cases j.den cal e2 with
      | fail => rfl
      | ok p3 =>
        obtain ⟨ri, e3⟩ := p3
        simp only [rb_ok]
        unfold kSto3
        dsimp only
        split
        · rename_i x i k
          show _ = stoO e3[i]? i x k e3
          unfold stoO
          generalize e3[i]? = oo
          cases oo with
          | none => rfl
          | some oo =>
            cases oo with
            | none => rfl
            | some w =>
              cases w with
              | ol xs =>
                dsimp only
                unfold stoJ
                cases L2.ixN xs.length k <;> rfl
              | _ => rfl
        · first | rfl | (split <;> simp_all)
/-! #### if, for, while, one after another -/
def kIf (a b : MSts) : Bool × Env → Rs (Fl × Env) := fun p => if p.1 then a.den cal ok p.2 else b.den cal ok p.2
@[simp] theorem kIf_ap {a b : MSts} {c : Bool} {e : Env} : kIf cal ok a b (c, e) = if c = true then a.den cal ok e else b.den cal ok e := rfl
@[simp] theorem stm_ife {t : MT} {a b : MSts} {env : Env} : MSt.den cal ok (.ife t a b) env = rb (t.den cal env) (kIf cal ok a b) := by
  show xIf (t.den cal) (a.den cal ok) (b.den cal ok) env = _
  unfold xIf
  rw [bind_rb]; rfl
def kLoop (tg : Tg) (b : MSts) : (List PyData × List PyData) × Env → Rs (Fl × Env) := fun p => forL (Tg.put ok tg) (b.den cal ok) p.1.2 p.2
@[simp] theorem kLoop_ap {tg : Tg} {b : MSts} {ds xs : List PyData} {e : Env} : kLoop cal ok tg b ((ds, xs), e) = forL (Tg.put ok tg) (b.den cal ok) xs e := rfl
@[simp] theorem stm_loop {tg : Tg} {it : MI} {b : MSts} {env : Env} : MSt.den cal ok (.loop tg it b) env = rb (it.den cal env) (kLoop cal ok tg b) := by
  show xFor (Tg.put ok tg) (it.den cal) (b.den cal ok) env = _
  unfold xFor
  rw [bind_rb]; rfl
def kSeq (r : MSts) : Fl × Env → Rs (Fl × Env) := fun p => match p.1 with
  | .nx => r.den cal ok p.2
  | f => .ok (f, p.2)
@[simp] theorem kSeq_nx {r : MSts} {e : Env} : kSeq cal ok r (.nx, e) = r.den cal ok e := rfl
@[simp] theorem kSeq_ret {r : MSts} {x : R} {e : Env} : kSeq cal ok r (.ret x, e) = .ok (.ret x, e) := rfl
@[simp] theorem kSeq_brk {r : MSts} {e : Env} : kSeq cal ok r (.brk, e) = .ok (.brk, e) := rfl
@[simp] theorem kSeq_cnt {r : MSts} {e : Env} : kSeq cal ok r (.cnt, e) = .ok (.cnt, e) := rfl
@[simp] theorem sts_nil {env : Env} : MSts.den cal ok .nil env = .ok (.nx, env) := rfl
@[simp] theorem sts_cons {s : MSt} {r : MSts} {env : Env} : MSts.den cal ok (.cons s r) env = rb (s.den cal ok env) (kSeq cal ok r) := by
  show xSeq (s.den cal ok) (r.den cal ok) env = _
  unfold xSeq
  rw [bind_rb]
  cases s.den cal ok env with
  | fail => rfl
  | ok p =>
    obtain ⟨f, e⟩ := p
    cases f <;> rfl
def kFor2 (put : PyData → Env → Rs Env) (b : Ex) (xs : List PyData) : Fl × Env → Rs (Fl × Env) := fun p => match p.1 with
  | .nx => forL put b xs p.2
  | .cnt => forL put b xs p.2
  | .brk => .ok (.nx, p.2)
  | .ret r => .ok (.ret r, p.2)
@[simp] theorem kFor2_nx {put : PyData → Env → Rs Env} {b : Ex} {xs : List PyData} {e : Env} : kFor2 put b xs (.nx, e) = forL put b xs e := rfl
@[simp] theorem kFor2_cnt {put : PyData → Env → Rs Env} {b : Ex} {xs : List PyData} {e : Env} : kFor2 put b xs (.cnt, e) = forL put b xs e := rfl
@[simp] theorem kFor2_ret {put : PyData → Env → Rs Env} {b : Ex} {xs : List PyData} {r : R} {e : Env} : kFor2 put b xs (.ret r, e) = .ok (.ret r, e) := rfl
@[simp] theorem kFor2_brk {put : PyData → Env → Rs Env} {b : Ex} {xs : List PyData} {e : Env} : kFor2 put b xs (.brk, e) = .ok (.nx, e) := rfl
def kFor (put : PyData → Env → Rs Env) (b : Ex) (xs : List PyData) : Env → Rs (Fl × Env) := fun e => rb (b e) (kFor2 put b xs)
@[simp] theorem kFor_ap {put : PyData → Env → Rs Env} {b : Ex} {xs : List PyData} {e : Env} : kFor put b xs e = rb (b e) (kFor2 put b xs) := rfl
theorem for_nil {put : PyData → Env → Rs Env} {b : Ex} {e : Env} : forL put b [] e = .ok (.nx, e) := rfl
theorem for_cons {put : PyData → Env → Rs Env} {b : Ex} {x : PyData} {xs : List PyData} {e : Env} : forL put b (x :: xs) e = rb (put x e) (kFor put b xs) := by
  show (put x e >>= _) = _
  rw [bind_rb]
  cases put x e with
  | fail => rfl
  | ok e1 =>
    simp only [rb_ok, kFor_ap, bind_rb]
    cases b e1 with
    | fail => rfl
    | ok p =>
      obtain ⟨f, e2⟩ := p
      cases f <;> rfl
def kCmp3 (own : List Nat) (put : PyData → Env → Rs Env) (c : Tv) (b : Ev) (xs acc : List PyData) : R × Env → Rs (List PyData × Env)
  | (.w (.d y), e) => chk (decide (acc.length < SZ) && own.all (freeSlot e)) (compL own put c b xs (wipeE e own) (acc ++ [y]))
  | _ => .fail
@[simp] theorem kCmp3_ap {own : List Nat} {put : PyData → Env → Rs Env} {c : Tv} {b : Ev} {xs acc : List PyData} {y : PyData} {e : Env} : kCmp3 own put c b xs acc (.w (.d y), e) = chk (decide (acc.length < SZ) && own.all (freeSlot e)) (compL own put c b xs (wipeE e own) (acc ++ [y])) := rfl
def kCmp2 (own : List Nat) (put : PyData → Env → Rs Env) (c : Tv) (b : Ev) (xs acc : List PyData) : Bool × Env → Rs (List PyData × Env) := fun p => if p.1 then rb (rb (b p.2) kFrz) (kCmp3 own put c b xs acc) else chk (own.all (freeSlot p.2)) (compL own put c b xs (wipeE p.2 own) acc)
@[simp] theorem kCmp2_ap {own : List Nat} {put : PyData → Env → Rs Env} {c : Tv} {b : Ev} {xs acc : List PyData} {t : Bool} {e : Env} : kCmp2 own put c b xs acc (t, e) = if t = true then rb (rb (b e) kFrz) (kCmp3 own put c b xs acc) else chk (own.all (freeSlot e)) (compL own put c b xs (wipeE e own) acc) := rfl
def kCmp1 (own : List Nat) (put : PyData → Env → Rs Env) (c : Tv) (b : Ev) (xs acc : List PyData) : Env → Rs (List PyData × Env) := fun e => rb (c e) (kCmp2 own put c b xs acc)
@[simp] theorem kCmp1_ap {own : List Nat} {put : PyData → Env → Rs Env} {c : Tv} {b : Ev} {xs acc : List PyData} {e : Env} : kCmp1 own put c b xs acc e = rb (c e) (kCmp2 own put c b xs acc) := rfl
theorem comp_nil {own : List Nat} {put : PyData → Env → Rs Env} {c : Tv} {b : Ev} {acc : List PyData} {e : Env} : compL own put c b [] e acc = .ok (acc, e) := rfl
theorem comp_cons {own : List Nat} {put : PyData → Env → Rs Env} {c : Tv} {b : Ev} {x : PyData} {xs acc : List PyData} {e : Env} : compL own put c b (x :: xs) e acc = rb (put x e) (kCmp1 own put c b xs acc) := by
  show (put x e >>= _) = _
  rw [bind_rb]
  cases put x e with
  | fail => rfl
  | ok e1 =>
    simp only [rb_ok, kCmp1_ap, bind_rb]
    cases c e1 with
    | fail => rfl
    | ok p =>
      obtain ⟨t, e2⟩ := p
      simp only [rb_ok, kCmp2_ap]
      cases t with
      | false =>
        simp only [need, chk, bind_rb, Bool.false_eq_true, if_false]
        cases own.all (freeSlot e2) <;> rfl
      | true =>
        simp only [if_true, ← frz_eq]
        unfold fFrz
        simp only [bind_rb]
        cases b e2 with
        | fail => rfl
        | ok p3 =>
          obtain ⟨r, e3⟩ := p3
          simp only [rb_ok]
          cases froz r e3 with
          | fail => rfl
          | ok p4 =>
            obtain ⟨y, e4⟩ := p4
            simp only [rb_ok, pure_ok, kCmp3_ap, need, chk]
            cases (decide (acc.length < SZ) && own.all (freeSlot e4)) <;> rfl
end
/-! #### a def -/
def kRun2 (d : Df) : Fl × Env → Rs (R × Env) := fun p => chk (decide (d.np ≤ p.2.length)) (match p.1 with
  | .nx => .ok (.w (.d .none), finE d.ok d.np p.2)
  | .ret r => chk (R.kept d.ok r) (.ok (r, finE d.ok d.np p.2))
  | _ => .fail)
@[simp] theorem kRun2_nx {d : Df} {e : Env} : kRun2 d (.nx, e) = chk (decide (d.np ≤ e.length)) (.ok (.w (.d .none), finE d.ok d.np e)) := rfl
@[simp] theorem kRun2_ret {d : Df} {r : R} {e : Env} : kRun2 d (.ret r, e) = chk (decide (d.np ≤ e.length)) (chk (R.kept d.ok r) (.ok (r, finE d.ok d.np e))) := rfl
theorem run_eq (d : Df) (body : Ex) (ws : List W) : runDf d body ws = chk (decide (ws.length = d.np)) (rb (body (ws.map some ++ List.replicate (d.slots - d.np) none)) (kRun2 d)) := by
  unfold runDf need chk
  cases decide (ws.length = d.np) with
  | false => rfl
  | true =>
    simp only [if_true, bind_rb, rb_ok]
    cases body (ws.map some ++ List.replicate (d.slots - d.np) none) with
    | fail => rfl
    | ok p =>
      obtain ⟨f, e⟩ := p
      simp only [rb_ok]
      unfold kRun2 chk
      dsimp only
      cases decide (d.np ≤ e.length) with
      | false => rfl
      | true =>
        simp only [if_true, rb_ok]
        cases f with
        | ret r =>
          dsimp only
          generalize R.kept d.ok r = b
          cases b <;> rfl
        | _ => rfl
@[simp] theorem kept_w {ok : Okk} {x : W} : R.kept ok (.w x) = true := rfl
@[simp] theorem kept_al {ok : Okk} {i : Nat} {p : List Str} : R.kept ok (.al i p) = !ok i := rfl
@[simp] theorem fin_0 {ok : Okk} {e : Env} : finE ok 0 e = [] := rfl
@[simp] theorem fin_s {ok : Okk} {n : Nat} {w : Option W} {e : Env} : finE ok (n + 1) (w :: e) = (if ok 0 then none else w) :: finE (fun i => ok (i + 1)) n e := rfl
@[simp] theorem okF_ap {l : List Bool} {i : Nat} : okF l i = l.getD i true := rfl
/-! #### operators -/
@[simp] theorem s_addI {i j : Int} : BOp.sem .add (.int i) (.int j) = some (.d (.int (i + j))) := rfl
@[simp] theorem s_subI {i j : Int} : BOp.sem .sub (.int i) (.int j) = some (.d (.int (i - j))) := rfl
theorem s_mulI {i j : Int} (h : i.natAbs < 2 ^ 4096) (h2 : j.natAbs < 2 ^ 4096) : BOp.sem .mul (.int i) (.int j) = some (.d (.int (i * j))) := by
  show (if decide (i.natAbs < 2 ^ 4096) && decide (j.natAbs < 2 ^ 4096) then _ else _) = _
  rw [decide_eq_true h, decide_eq_true h2]; rfl
theorem s_modI {i j : Int} (h : 0 < j) : BOp.sem .mod (.int i) (.int j) = some (.d (.int (i % j))) := by
  show (if decide (0 < j) then some (i % j) else none).map _ = _
  rw [decide_eq_true h]; rfl
theorem s_fdivI {i j : Int} (h : 0 < j) (h2 : j < 1073741824) : BOp.sem .fdiv (.int i) (.int j) = some (.d (.int (i / j))) := by
  show (if decide (0 < j) && decide (j < 1073741824) then some (i / j) else none).map _ = _
  rw [decide_eq_true h, decide_eq_true h2]; rfl
theorem s_powI {i j : Int} (h : 0 ≤ j) (h2 : j ≤ 1000000) (h3 : i.natAbs < 2 ^ 64) : BOp.sem .pow (.int i) (.int j) = some (.d (.int (i ^ j.toNat))) := by
  show (if decide (0 ≤ j) && decide (j ≤ 1000000) && decide (i.natAbs < 2 ^ 64) then some (i ^ j.toNat) else none).map _ = _
  rw [decide_eq_true h, decide_eq_true h2, decide_eq_true h3]; rfl
@[simp] theorem s_ltI {i j : Int} : BOp.sem .lt (.int i) (.int j) = some (.d (.bool (decide (i < j)))) := rfl
@[simp] theorem s_leI {i j : Int} : BOp.sem .le (.int i) (.int j) = some (.d (.bool (decide (i ≤ j)))) := rfl
@[simp] theorem s_gtI {i j : Int} : BOp.sem .gt (.int i) (.int j) = some (.d (.bool (decide (j < i)))) := rfl
@[simp] theorem s_geI {i j : Int} : BOp.sem .ge (.int i) (.int j) = some (.d (.bool (decide (j ≤ i)))) := rfl
@[simp] theorem s_isN {x : PyData} : BOp.sem .is x .none = some (.d (.bool (isN x))) := by
  cases x <;> rfl
@[simp] theorem s_isNotN {x : PyData} : BOp.sem .isNot x .none = some (.d (.bool (!isN x))) := by
  cases x <;> rfl
@[simp] theorem ix_dl {xs : List PyData} {i : Int} : dIx (.d (.list xs)) (.int i) = (L2.atI xs i).map .d := rfl
@[simp] theorem ix_dt {xs : List PyData} {i : Int} : dIx (.d (.tuple xs)) (.int i) = (L2.atI xs i).map .d := rfl
@[simp] theorem ix_ol {xs : List PyData} {i : Int} : dIx (.ol xs) (.int i) = (L2.atI xs i).map .d := rfl
@[simp] theorem b_int {i : Int} : Bi.sem .int [.d (.int i)] = some (.d (.int i)) := rfl
@[simp] theorem b_lenl {xs : List PyData} : Bi.sem .len [.d (.list xs)] = some (.d (.int xs.length)) := rfl
@[simp] theorem b_lent {xs : List PyData} : Bi.sem .len [.d (.tuple xs)] = some (.d (.int xs.length)) := rfl
@[simp] theorem b_leno {xs : List PyData} : Bi.sem .len [.ol xs] = some (.d (.int xs.length)) := rfl
end Rf
end

section
set_option Elab.async false
set_option linter.all false
set_option maxRecDepth 10000
/-! While, and lists of numbers. -/
namespace Rf
open PySem
section
variable (cal : Str → Call) (ok : Okk)
def kWhl3 (t : MT) (b : MSts) (n : Nat) : Fl × Env → Rs (Fl × Env) := fun p => match p.1 with
  | .nx => whileL (t.den cal) (b.den cal ok) n p.2
  | .cnt => whileL (t.den cal) (b.den cal ok) n p.2
  | .brk => .ok (.nx, p.2)
  | .ret r => .ok (.ret r, p.2)
@[simp] theorem kWhl3_nx {t : MT} {b : MSts} {n : Nat} {e : Env} : kWhl3 cal ok t b n (.nx, e) = whileL (t.den cal) (b.den cal ok) n e := rfl
@[simp] theorem kWhl3_cnt {t : MT} {b : MSts} {n : Nat} {e : Env} : kWhl3 cal ok t b n (.cnt, e) = whileL (t.den cal) (b.den cal ok) n e := rfl
@[simp] theorem kWhl3_brk {t : MT} {b : MSts} {n : Nat} {e : Env} : kWhl3 cal ok t b n (.brk, e) = .ok (.nx, e) := rfl
@[simp] theorem kWhl3_ret {t : MT} {b : MSts} {n : Nat} {r : R} {e : Env} : kWhl3 cal ok t b n (.ret r, e) = .ok (.ret r, e) := rfl
def kWhl2 (t : MT) (b : MSts) (n : Nat) : Bool × Env → Rs (Fl × Env) := fun p => if p.1 then rb (b.den cal ok p.2) (kWhl3 cal ok t b n) else .ok (.nx, p.2)
@[simp] theorem kWhl2_ap {t : MT} {b : MSts} {n : Nat} {c : Bool} {e : Env} : kWhl2 cal ok t b n (c, e) = if c = true then rb (b.den cal ok e) (kWhl3 cal ok t b n) else .ok (.nx, e) := rfl
theorem whl_s {t : MT} {b : MSts} {n : Nat} {e : Env} : whileL (t.den cal) (b.den cal ok) (n + 1) e = rb (t.den cal e) (kWhl2 cal ok t b n) := by
  show (t.den cal e >>= _) = _
  rw [bind_rb]
  cases t.den cal e with
  | fail => rfl
  | ok p =>
    obtain ⟨c, e1⟩ := p
    simp only [rb_ok, kWhl2_ap, bind_rb]
    cases c with
    | false => rfl
    | true =>
      simp only [if_true]
      cases b.den cal ok e1 with
      | fail => rfl
      | ok p2 =>
        obtain ⟨f, e2⟩ := p2
        cases f <;> rfl
@[simp] theorem stm_whl {t : MT} {b : MSts} {n : Nat} {env : Env} : MSt.den cal ok (.whl t b n) env = whileL (t.den cal) (b.den cal ok) n env := rfl
end
/-! #### numbers -/
def natD (n : Nat) : PyData := .int (n : Int)
def natsD (ns : List Nat) : List PyData := ns.map natD
@[simp] theorem natsD_nil : natsD [] = [] := rfl
@[simp] theorem natsD_cons {n : Nat} {ns : List Nat} : natsD (n :: ns) = natD n :: natsD ns := rfl
@[simp] theorem natsD_len {ns : List Nat} : (natsD ns).length = ns.length := by simp [natsD]
theorem natsD_append {a b : List Nat} : natsD (a ++ b) = natsD a ++ natsD b := by simp [natsD]
end Rf
end

section
set_option Elab.async false
set_option linter.all false
set_option maxRecDepth 10000
/-! The draws of a law. -/
namespace Rf
open PySem
@[simp] theorem at_0 {α : Type} {x : α} {xs : List α} : L2.atI (x :: xs) 0 = some x := by
  unfold L2.atI L2.ixN
  have : (0 : Int) < (x :: xs).length := by rw [List.length_cons]; omega
  rw [if_pos (by omega), if_pos this]; rfl
@[simp] theorem at_1 {α : Type} {x y : α} {xs : List α} : L2.atI (x :: y :: xs) 1 = some y := by
  unfold L2.atI L2.ixN
  have : (1 : Int) < (x :: y :: xs).length := by rw [List.length_cons, List.length_cons]; omega
  rw [if_pos (by omega), if_pos this]; rfl
@[simp] theorem at_2 {α : Type} {x y z : α} {xs : List α} : L2.atI (x :: y :: z :: xs) 2 = some z := by
  unfold L2.atI L2.ixN
  have : (2 : Int) < (x :: y :: z :: xs).length := by rw [List.length_cons, List.length_cons, List.length_cons]; omega
  rw [if_pos (by omega), if_pos this]; rfl
@[simp] theorem ix3_1 : L2.ixN 3 1 = some 1 := rfl
@[simp] theorem ix3_2 : L2.ixN 3 2 = some 2 := rfl
theorem at_nat {α : Type} {xs : List α} {i : Int} (h0 : 0 ≤ i) (h : i < xs.length) : L2.atI xs i = some (xs[i.toNat]'(by omega)) := by
  unfold L2.atI L2.ixN
  rw [if_pos h0, if_pos h]
  exact List.getElem?_eq_getElem (by omega)
def c_law_spread : MSts := (.cons (.ife (.tst (.op .ge (.var 0) (.op .pow (.dat (.int (10))) (.dat (.int (18)))))) (.cons (.ret (.var 0))
  .nil) .nil)
  (.cons (.set 2 (.lst (.cons (.dat (.int (2147483629))) (.cons (.dat (.int (2147483587))) (.cons (.dat (.int (2147483579))) (.cons (.dat (.int (2147483563))) (.cons (.dat (.int (2147483549))) (.cons (.dat (.int (2147483543))) (.cons (.dat (.int (2147483497))) .nil)))))))))
  (.cons (.set 2 (.op .add (.var 2) (.lst (.cons (.dat (.int (2147483489))) (.cons (.dat (.int (2147483477))) (.cons (.dat (.int (2147483423))) (.cons (.dat (.int (2147483399))) (.cons (.dat (.int (2147483353))) (.cons (.dat (.int (2147483323))) .nil)))))))))
  (.cons (.set 3 (.op .add (.op .add (.op .mul (.op .mod (.bi .int (.cons (.var 0) .nil)) (.dat (.int (1000000007)))) (.op .add (.op .mul (.dat (.int (2))) (.var 1)) (.dat (.int (69069))))) (.op .mul (.var 1) (.dat (.int (40503))))) (.dat (.int (977)))))
  (.cons (.set 4 (.op .mod (.bi .int (.cons (.op .pow (.var 3) (.dat (.int (3)))) .nil)) (.ix (.var 2) (.op .mod (.bi .int (.cons (.var 1) .nil)) (.dat (.int (13)))))))
  (.cons (.set 5 (.op .add (.op .mod (.bi .int (.cons (.var 0) .nil)) (.dat (.int (65537)))) (.dat (.int (5)))))
  (.cons (.set 6 (.op .mod (.bi .int (.cons (.op .pow (.op .add (.op .mul (.var 4) (.op .add (.var 1) (.dat (.int (3))))) (.var 5)) (.dat (.int (5)))) .nil)) (.ix (.var 2) (.op .mod (.bi .int (.cons (.op .add (.var 1) (.dat (.int (5)))) .nil)) (.dat (.int (13)))))))
  (.cons (.set 7 (.op .mod (.bi .int (.cons (.op .pow (.op .add (.op .add (.var 6) (.op .mod (.bi .int (.cons (.var 4) .nil)) (.dat (.int (1009))))) (.var 1)) (.dat (.int (3)))) .nil)) (.ix (.var 2) (.op .mod (.bi .int (.cons (.op .add (.var 1) (.dat (.int (7)))) .nil)) (.dat (.int (13)))))))
  (.cons (.ret (.op .add (.op .mul (.op .add (.op .mul (.var 4) (.dat (.int (2147483647)))) (.var 6)) (.dat (.int (2147483647)))) (.var 7)))
  .nil)))))))))
/-- what the spreading gives of a list of primes -/
def primesD : List PyData := [.int 2147483629, .int 2147483587, .int 2147483579, .int 2147483563, .int 2147483549, .int 2147483543, .int 2147483497, .int 2147483489, .int 2147483477, .int 2147483423, .int 2147483399, .int 2147483353, .int 2147483323]
theorem prime_at {i : Int} (h0 : 0 ≤ i) (h : i < 13) : ∃ p : Int, L2.atI primesD i = some (.int p) ∧ 0 < p ∧ p < 2147483648 := by
  have : i = 0 ∨ i = 1 ∨ i = 2 ∨ i = 3 ∨ i = 4 ∨ i = 5 ∨ i = 6 ∨ i = 7 ∨ i = 8 ∨ i = 9 ∨ i = 10 ∨ i = 11 ∨ i = 12 := by omega
  rcases this with h | h | h | h | h | h | h | h | h | h | h | h | h <;> (subst h; exact ⟨_, rfl, by decide, by decide⟩)
theorem mul_bd {x y a b : Int} (h0 : 0 ≤ x) (h1 : x ≤ a) (h2 : 0 ≤ y) (h3 : y ≤ b) : 0 ≤ x * y ∧ x * y ≤ a * b :=
  ⟨Int.mul_nonneg h0 h2, Int.mul_le_mul h1 h3 h2 (by omega)⟩
theorem add_lst {xs ys : List PyData} (h : xs.length + ys.length ≤ SZ) : BOp.sem .add (.list xs) (.list ys) = some (.ol (xs ++ ys)) := by
  show (if decide (xs.length + ys.length ≤ SZ) then _ else _) = _
  rw [decide_eq_true h]; rfl
theorem small_pow {x : Int} {n : Nat} (h0 : 0 ≤ x) (h : x < 2 ^ n) : x.natAbs < 2 ^ n := by
  have : (x.natAbs : Int) = x := by omega
  have h2 : ((2 ^ n : Nat) : Int) = 2 ^ n := by simp
  omega
theorem lt4096 {x : Int} (h0 : -(2 ^ 200) < x) (h : x < 2 ^ 200) : x.natAbs < 2 ^ 4096 := by
  have h1 : x.natAbs < 2 ^ 200 := by omega
  exact Nat.lt_trans h1 (Nat.pow_lt_pow_right (by decide) (by decide))
theorem spread_ok (cal : Str → Call) (c a : Int) (h0 : 0 ≤ a) (h1 : a ≤ 1000000) : ∃ s : Int, 0 ≤ s ∧
    runDf ⟨2, 8, okF [false, false]⟩ (c_law_spread.den cal (okF [false, false])) [.d (.int c), .d (.int a)] = .ok (.w (.d (.int s)), [some (.d (.int c)), some (.d (.int a))]) := by
  have p18 : BOp.sem .pow (.int 10) (.int 18) = some (.d (.int 1000000000000000000)) := s_powI (by decide) (by decide) (by decide)
  by_cases hc : 1000000000000000000 ≤ c
  · refine ⟨c, by omega, ?_⟩
    simp [run_eq, c_law_spread, p18, hc, List.replicate]
  · obtain ⟨p1, e1, q1, r1⟩ := prime_at (i := a % 13) (by omega) (by omega)
    obtain ⟨p2, e2, q2, r2⟩ := prime_at (i := (a + 5) % 13) (by omega) (by omega)
    obtain ⟨p3, e3, q3, r3⟩ := prime_at (i := (a + 7) % 13) (by omega) (by omega)
    have hs : (7 : Nat) + 6 ≤ SZ := by decide
    have hz : (7 : Nat) ≤ SZ := by decide
    have hz6 : (6 : Nat) ≤ SZ := by decide
    have m0 : BOp.sem .mod (.int c) (.int 1000000007) = some (.d (.int (c % 1000000007))) := s_modI (by decide)
    have m1 : BOp.sem .mul (.int 2) (.int a) = some (.d (.int (2 * a))) := s_mulI (by decide) (lt4096 (by omega) (by omega))
    have b1 := mul_bd (x := c % 1000000007) (y := 2 * a + 69069) (a := 1000000007) (b := 2069069) (by omega) (by omega) (by omega) (by omega)
    have m2 : BOp.sem .mul (.int (c % 1000000007)) (.int (2 * a + 69069)) = some (.d (.int (c % 1000000007 * (2 * a + 69069)))) := s_mulI (lt4096 (by omega) (by omega)) (lt4096 (by omega) (by omega))
    have m3 : BOp.sem .mul (.int a) (.int 40503) = some (.d (.int (a * 40503))) := s_mulI (lt4096 (by omega) (by omega)) (by decide)
    generalize hx : c % 1000000007 * (2 * a + 69069) + a * 40503 + 977 = x
    have x0 : 0 ≤ x ∧ x < 2 ^ 60 := by omega
    have w1 : BOp.sem .pow (.int x) (.int 3) = some (.d (.int (x ^ 3))) := s_powI (by decide) (by decide) (Nat.lt_of_lt_of_le (small_pow x0.1 x0.2) (by decide))
    have m4 : BOp.sem .mod (.int a) (.int 13) = some (.d (.int (a % 13))) := s_modI (by decide)
    have m5 : BOp.sem .mod (.int (x ^ 3)) (.int p1) = some (.d (.int (x ^ 3 % p1))) := s_modI q1
    generalize ho : x ^ 3 % p1 = o at m5
    have o0 : 0 ≤ o ∧ o < 2147483648 := by
      rw [← ho]
      exact ⟨Int.emod_nonneg _ (by omega), Int.lt_trans (Int.emod_lt_of_pos _ q1) r1⟩
    have m6 : BOp.sem .mod (.int c) (.int 65537) = some (.d (.int (c % 65537))) := s_modI (by decide)
    have b2 := mul_bd (x := o) (y := a + 3) (a := 2147483648) (b := 1000003) (by omega) (by omega) (by omega) (by omega)
    have m7 : BOp.sem .mul (.int o) (.int (a + 3)) = some (.d (.int (o * (a + 3)))) := s_mulI (lt4096 (by omega) (by omega)) (lt4096 (by omega) (by omega))
    have w2 : BOp.sem .pow (.int (o * (a + 3) + (c % 65537 + 5))) (.int 5) = some (.d (.int ((o * (a + 3) + (c % 65537 + 5)) ^ 5))) :=
      s_powI (by decide) (by decide) (Nat.lt_of_lt_of_le (small_pow (n := 60) (by omega) (by omega)) (by decide))
    have m8 : BOp.sem .mod (.int (a + 5)) (.int 13) = some (.d (.int ((a + 5) % 13))) := s_modI (by decide)
    have m9 : BOp.sem .mod (.int ((o * (a + 3) + (c % 65537 + 5)) ^ 5)) (.int p2) = some (.d (.int ((o * (a + 3) + (c % 65537 + 5)) ^ 5 % p2))) := s_modI q2
    generalize ht : (o * (a + 3) + (c % 65537 + 5)) ^ 5 % p2 = t at m9
    have t0 : 0 ≤ t ∧ t < 2147483648 := by
      rw [← ht]
      exact ⟨Int.emod_nonneg _ (by omega), Int.lt_trans (Int.emod_lt_of_pos _ q2) r2⟩
    have m10 : BOp.sem .mod (.int o) (.int 1009) = some (.d (.int (o % 1009))) := s_modI (by decide)
    have w3 : BOp.sem .pow (.int (t + o % 1009 + a)) (.int 3) = some (.d (.int ((t + o % 1009 + a) ^ 3))) :=
      s_powI (by decide) (by decide) (Nat.lt_of_lt_of_le (small_pow (n := 60) (by omega) (by omega)) (by decide))
    have m11 : BOp.sem .mod (.int (a + 7)) (.int 13) = some (.d (.int ((a + 7) % 13))) := s_modI (by decide)
    have m12 : BOp.sem .mod (.int ((t + o % 1009 + a) ^ 3)) (.int p3) = some (.d (.int ((t + o % 1009 + a) ^ 3 % p3))) := s_modI q3
    generalize hv : (t + o % 1009 + a) ^ 3 % p3 = v at m12
    have v0 : 0 ≤ v := by
      rw [← hv]
      exact Int.emod_nonneg _ (by omega)
    have m13 : BOp.sem .mul (.int o) (.int 2147483647) = some (.d (.int (o * 2147483647))) := s_mulI (lt4096 (by omega) (by omega)) (by decide)
    have m14 : BOp.sem .mul (.int (o * 2147483647 + t)) (.int 2147483647) = some (.d (.int ((o * 2147483647 + t) * 2147483647))) := s_mulI (lt4096 (by omega) (by omega)) (by decide)
    refine ⟨(o * 2147483647 + t) * 2147483647 + v, by omega, ?_⟩
    unfold primesD at e1 e2 e3
    simp [run_eq, c_law_spread, p18, hc, List.replicate, add_lst, hs, hz, hz6, m0, m1, m2, m3, hx, w1, m4, m5, m6, m7, w2, m8, m9, m10, w3, m11, m12, m13, m14, e1, e2, e3]
end Rf
end

section
set_option Elab.async false
set_option linter.all false
set_option maxRecDepth 10000
namespace Rf
open PySem
def c_law_take : MSts := (.cons (.ife (.tst (.op .lt (.ix (.var 0) (.dat (.int (2)))) (.var 1))) (.cons (.set 2 (.ix (.var 0) (.dat (.int (1)))))
  (.cons (.set 3 (.dat (.int (0))))
  (.cons (.ife (.tst (.op .lt (.var 2) (.bi .len (.cons (.ix (.var 0) (.dat (.int (0)))) .nil)))) (.cons (.set 3 (.ix (.ix (.var 0) (.dat (.int (0)))) (.var 2)))
  .nil) (.cons (.ife (.tst (.op .gt (.bi .len (.cons (.ix (.var 0) (.dat (.int (0)))) .nil)) (.dat (.int (0))))) (.cons (.set 3 (.op .mod (.bi .int (.cons (.ix (.ix (.var 0) (.dat (.int (0)))) (.op .mod (.bi .int (.cons (.op .add (.op .mul (.var 2) (.dat (.int (5)))) (.dat (.int (3)))) .nil)) (.bi .len (.cons (.ix (.var 0) (.dat (.int (0)))) .nil)))) .nil)) (.op .add (.op .pow (.dat (.int (10))) (.dat (.int (17)))) (.var 2))))
  .nil) .nil)
  .nil))
  (.cons (.store (.var 0) (.dat (.int (1))) (.op .add (.var 2) (.dat (.int (1)))))
  (.cons (.store (.var 0) (.dat (.int (2))) (.cal "_law_spread" (.cons (.var 3) (.cons (.var 2) .nil))))
  .nil))))) .nil)
  (.cons (.set 4 (.op .mod (.bi .int (.cons (.ix (.var 0) (.dat (.int (2)))) .nil)) (.var 1)))
  (.cons (.store (.var 0) (.dat (.int (2))) (.op .fdiv (.ix (.var 0) (.dat (.int (2)))) (.var 1)))
  (.cons (.ret (.var 4))
  .nil))))
/-- a pen -/
abbrev penW (cells : List Int) (a v : Int) : W := .ol [.list (cells.map PyData.int), .int a, .int v]
def SpreadOk (cal : Str → Call) : Prop := ∀ c a : Int, 0 ≤ a → a ≤ 1000000 → ∃ s : Int, 0 ≤ s ∧ cal "_law_spread" [.d (.int c), .d (.int a)] = .ok (.w (.d (.int s)), [some (.d (.int c)), some (.d (.int a))])
def TakeOk (cal : Str → Call) : Prop := ∀ (cells : List Int) (a v many : Int), 0 ≤ a → a ≤ 1000000 → 0 ≤ v → 0 < many → many < 1073741824 →
  ∃ r a' v' : Int, 0 ≤ r ∧ r < many ∧ a ≤ a' ∧ a' ≤ a + 1 ∧ 0 ≤ v' ∧ cal "_law_take" [penW cells a v, .d (.int many)] = .ok (.w (.d (.int r)), [some (penW cells a' v'), some (.d (.int many))])
theorem take_ok (cal : Str → Call) (hsp : SpreadOk cal) (cells : List Int) (a v many : Int) (ha : 0 ≤ a) (ha2 : a ≤ 1000000) (hv : 0 ≤ v) (h0 : 0 < many) (hm : many < 1073741824) :
    ∃ r a' v' : Int, 0 ≤ r ∧ r < many ∧ a ≤ a' ∧ a' ≤ a + 1 ∧ 0 ≤ v' ∧
      runDf ⟨2, 5, okF [false, false]⟩ (c_law_take.den cal (okF [false, false])) [penW cells a v, .d (.int many)] = .ok (.w (.d (.int r)), [some (penW cells a' v'), some (.d (.int many))]) := by
  have m1 : ∀ x : Int, BOp.sem .mod (.int x) (.int many) = some (.d (.int (x % many))) := fun x => s_modI h0
  have f1 : ∀ x : Int, BOp.sem .fdiv (.int x) (.int many) = some (.d (.int (x / many))) := fun x => s_fdivI h0 hm
  by_cases h : v < many
  · -- a cell is drawn
    have p17 : BOp.sem .pow (.int 10) (.int 17) = some (.d (.int 100000000000000000)) := s_powI (by decide) (by decide) (by decide)
    have key : ∀ c s : Int, 0 ≤ s → cal "_law_spread" [.d (.int c), .d (.int a)] = .ok (.w (.d (.int s)), [some (.d (.int c)), some (.d (.int a))]) → 0 ≤ s % many ∧ s % many < many ∧ a ≤ a + 1 ∧ a + 1 ≤ a + 1 ∧ 0 ≤ s / many := fun c s hs _ =>
      ⟨Int.emod_nonneg _ (by omega), Int.emod_lt_of_pos _ h0, by omega, by omega, Int.ediv_nonneg hs (by omega)⟩
    by_cases hl : a < cells.length
    · have hi : L2.atI (cells.map PyData.int) a = some (.int (cells[a.toNat]'(by omega))) := by
        rw [at_nat ha (by simpa using hl)]
        simp
      obtain ⟨s, hs, es⟩ := hsp (cells[a.toNat]'(by omega)) a ha ha2
      obtain ⟨k1, k2, k3, k4, k5⟩ := key _ s hs es
      refine ⟨s % many, a + 1, s / many, k1, k2, k3, k4, k5, ?_⟩
      simp [run_eq, c_law_take, h, h0, hm, m1, f1, List.replicate, hl, hi, es, MEs.q, ME.q]
    · by_cases hn : 0 < cells.length
      · have hn' : (0 : Int) < cells.length := by omega
        have g1 : BOp.sem .mul (.int a) (.int 5) = some (.d (.int (a * 5))) := s_mulI (lt4096 (by omega) (by omega)) (by decide)
        have g2 : BOp.sem .mod (.int (a * 5 + 3)) (.int cells.length) = some (.d (.int ((a * 5 + 3) % cells.length))) := s_modI hn'
        have b1 := Int.emod_nonneg (a * 5 + 3) (b := (cells.length : Int)) (by omega)
        have b2 := Int.emod_lt_of_pos (a * 5 + 3) hn'
        generalize hj : (a * 5 + 3) % (cells.length : Int) = j at g2 b1 b2
        have hi : L2.atI (cells.map PyData.int) j = some (.int (cells[j.toNat]'(by omega))) := by
          rw [at_nat b1 (by simpa using b2)]
          simp
        generalize hc : cells[j.toNat]'(by omega) = c at hi
        have g3 : BOp.sem .mod (.int c) (.int (100000000000000000 + a)) = some (.d (.int (c % (100000000000000000 + a)))) := s_modI (by omega)
        obtain ⟨s, hs, es⟩ := hsp (c % (100000000000000000 + a)) a ha ha2
        obtain ⟨k1, k2, k3, k4, k5⟩ := key _ s hs es
        refine ⟨s % many, a + 1, s / many, k1, k2, k3, k4, k5, ?_⟩
        simp [run_eq, c_law_take, h, h0, hm, m1, f1, List.replicate, hl, hn, hi, es, g1, g2, g3, p17, MEs.q, ME.q]
      · have hn' : ¬ (0 : Int) < cells.length := by omega
        obtain ⟨s, hs, es⟩ := hsp 0 a ha ha2
        obtain ⟨k1, k2, k3, k4, k5⟩ := key _ s hs es
        refine ⟨s % many, a + 1, s / many, k1, k2, k3, k4, k5, ?_⟩
        simp [run_eq, c_law_take, h, h0, hm, m1, f1, List.replicate, hl, hn, es, MEs.q, ME.q]
  · refine ⟨v % many, a, v / many, Int.emod_nonneg _ (by omega), Int.emod_lt_of_pos _ h0, by omega, by omega, Int.ediv_nonneg hv (by omega), ?_⟩
    simp [run_eq, c_law_take, h, h0, hm, m1, f1, List.replicate]
end Rf
end

section
set_option Elab.async false
set_option linter.all false
set_option maxRecDepth 10000
namespace Rf
open PySem
def c_law_open : MSts := (.cons (.set 1 (.bi .list (.cons (.sl (.var 0) .none (.some (.dat (.int (12))))) .nil)))
  (.cons (.loop (.tup [(.name 2), (.name 3)]) (.enm (.sl (.var 0) (.some (.dat (.int (12)))) (.some (.dat (.int (63)))))) (.cons (.store (.var 1) (.op .mod (.bi .int (.cons (.var 2) .nil)) (.dat (.int (12)))) (.op .add (.ix (.var 1) (.op .mod (.bi .int (.cons (.var 2) .nil)) (.dat (.int (12))))) (.var 3)))
  .nil))
  (.cons (.ret (.lst (.cons (.var 1) (.cons (.dat (.int (0))) (.cons (.dat (.int (0))) .nil)))))
  .nil)))
def c_law_anew : MSts := (.cons (.store (.var 0) (.dat (.int (2))) (.dat (.int (0))))
  (.cons (.ret (.var 0))
  .nil))
def c_law_one : MSts := (.cons (.ret (.ix (.var 1) (.cal "_law_take" (.cons (.var 0) (.cons (.bi .len (.cons (.var 1) .nil)) .nil)))))
  .nil)
@[simp] theorem sl_fl {xs : List PyData} {lo hi : Option Int} : oSl (.fl xs) lo hi = some (.ol (cutG xs lo hi)) := rfl
@[simp] theorem sl_ol {xs : List PyData} {lo hi : Option Int} : oSl (.ol xs) lo hi = some (.ol (cutG xs lo hi)) := rfl
@[simp] theorem sl_dl {xs : List PyData} {lo hi : Option Int} : oSl (.d (.list xs)) lo hi = some (.ol (cutG xs lo hi)) := rfl
@[simp] theorem sl_dt {xs : List PyData} {lo hi : Option Int} : oSl (.d (.tuple xs)) lo hi = some (.d (.tuple (cutG xs lo hi))) := rfl
@[simp] theorem b_listo {xs : List PyData} : Bi.sem .list [.ol xs] = some (.ol xs) := rfl
@[simp] theorem b_listl {xs : List PyData} : Bi.sem .list [.d (.list xs)] = some (.ol xs) := rfl
@[simp] theorem b_listt {xs : List PyData} : Bi.sem .list [.d (.tuple xs)] = some (.ol xs) := rfl
@[simp] theorem b_tupo {xs : List PyData} : Bi.sem .tuple [.ol xs] = some (.d (.tuple xs)) := rfl
@[simp] theorem b_tupl {xs : List PyData} : Bi.sem .tuple [.d (.list xs)] = some (.d (.tuple xs)) := rfl
@[simp] theorem b_tupt {xs : List PyData} : Bi.sem .tuple [.d (.tuple xs)] = some (.d (.tuple xs)) := rfl
theorem cut_map {xs : List Int} {lo hi : Option Int} : cutG (xs.map PyData.int) lo hi = (cutG xs lo hi).map PyData.int := by
  unfold cutG
  simp
theorem cut_nat {α : Type} {xs : List α} {a b : Nat} : cutG xs (some (a : Int)) (some (b : Int)) = (xs.drop (min a xs.length)).take (min b xs.length - min a xs.length) := by
  unfold cutG
  rw [HT.sIx_nat, HT.sIx_nat]
theorem cut_to {α : Type} {xs : List α} {b : Nat} : cutG xs none (some (b : Int)) = xs.take (min b xs.length) := by
  unfold cutG
  rw [HT.sIx_nat, HT.sIx_none]
  simp
def OpenOk (cal : Str → Call) : Prop := ∀ ns : List Int, ∃ cells : List Int, cal "_law_open" [.fl (ns.map PyData.int)] = .ok (.w (penW cells 0 0), [some (.fl (ns.map PyData.int))])
theorem open_loop (cal : Str → Call) (S : List PyData) : ∀ (L : List PyData), (∀ p ∈ L, ∃ k c : Int, 0 ≤ k ∧ p = .tuple [.int k, .int c]) → ∀ (cells : List Int) (e2 e3 : Option W), cells.length = 12 →
    ∃ (cells' : List Int) (e2' e3' : Option W), forL (Tg.put (okF [false]) (.tup [(.name 2), (.name 3)])) (MSts.den cal (okF [false]) (.cons (.store (.var 1) (.op .mod (.bi .int (.cons (.var 2) .nil)) (.dat (.int (12)))) (.op .add (.ix (.var 1) (.op .mod (.bi .int (.cons (.var 2) .nil)) (.dat (.int (12))))) (.var 3)))
  .nil)) L [some (.fl S), some (.ol (cells.map PyData.int)), e2, e3] = .ok (.nx, [some (.fl S), some (.ol (cells'.map PyData.int)), e2', e3'])
  | [], _, cells, e2, e3, _ => ⟨cells, e2, e3, for_nil⟩
  | p :: L, h, cells, e2, e3, hl => by
    obtain ⟨k, c, hk, rfl⟩ := h p List.mem_cons_self
    have m1 : BOp.sem .mod (.int k) (.int 12) = some (.d (.int (k % 12))) := s_modI (by decide)
    have b1 : 0 ≤ k % 12 := by omega
    have b2 : k % 12 < 12 := by omega
    have hi : L2.atI (cells.map PyData.int) (k % 12) = some (.int (cells[(k % 12).toNat]'(by omega))) := by
      rw [at_nat b1 (by simpa [hl] using b2)]
      simp
    have hj : L2.ixN 12 (k % 12) = some (k % 12).toNat := by
      unfold L2.ixN
      rw [if_pos b1, if_pos (by omega)]
    obtain ⟨cells', e2', e3', ih⟩ := open_loop cal S L (fun p hp => h p (List.mem_cons_of_mem _ hp)) (cells.set (k % 12).toNat (cells[(k % 12).toNat]'(by omega) + c)) (some (.d (.int k))) (some (.d (.int c))) (by simpa using hl)
    refine ⟨cells', e2', e3', ?_⟩
    rw [for_cons, ← ih]
    simp [m1, hi, hj, hl, MEs.q, ME.q, List.map_set]
theorem open_ok (cal : Str → Call) (ns : List Int) : ∃ cells : List Int,
    runDf ⟨1, 4, okF [false]⟩ (c_law_open.den cal (okF [false])) [.fl (ns.map PyData.int)] = .ok (.w (penW cells 0 0), [some (.fl (ns.map PyData.int))]) := by
  have e1 : cutG (ns.map PyData.int) none (some 12) = (ns.take (min 12 ns.length)).map PyData.int := by
    rw [cut_map]
    exact congrArg _ (cut_to (b := 12))
  have e2 : cutG (ns.map PyData.int) (some 12) (some 63) = (((ns.drop (min 12 ns.length)).take (min 63 ns.length - min 12 ns.length))).map PyData.int := by
    rw [cut_map]
    exact congrArg _ (cut_nat (a := 12) (b := 63))
  have hz : (3 : Nat) ≤ SZ := by decide
  by_cases hl : 12 ≤ ns.length
  · obtain ⟨cells', a2, a3, h⟩ := open_loop cal (ns.map PyData.int) (enumD ((((ns.drop (min 12 ns.length)).take (min 63 ns.length - min 12 ns.length))).map PyData.int)) (fun p hp => by
      unfold enumD at hp
      obtain ⟨i, hi, rfl⟩ := List.mem_mapIdx.mp hp
      simp) (ns.take (min 12 ns.length)) none none (by simp; omega)
    refine ⟨cells', ?_⟩
    simp [run_eq, c_law_open, List.replicate, e1, e2, MEs.q, ME.q, MP.q]
    simp at h
    simp [h, MEs.q, ME.q, hz]
  · refine ⟨ns.take (min 12 ns.length), ?_⟩
    have e3 : ((ns.drop (min 12 ns.length)).take (min 63 ns.length - min 12 ns.length)) = [] := by
      rw [List.take_eq_nil_iff]
      left; omega
    rw [e3] at e2
    simp [run_eq, c_law_open, List.replicate, e1, e2, MEs.q, ME.q, MP.q, enumD, for_nil, hz]
end Rf
end

section
set_option Elab.async false
set_option linter.all false
set_option maxRecDepth 10000
namespace Rf
open PySem
def AnewOk (cal : Str → Call) : Prop := ∀ (cells : List Int) (a v : Int), cal "_law_anew" [penW cells a v] = .ok (.al 0 [], [some (penW cells a 0)])
theorem anew_ok (cal : Str → Call) (cells : List Int) (a v : Int) : runDf ⟨1, 1, okF [false]⟩ (c_law_anew.den cal (okF [false])) [penW cells a v] = .ok (.al 0 [], [some (penW cells a 0)]) := by
  simp [run_eq, c_law_anew]
def OneOk (cal : Str → Call) : Prop := ∀ (cells : List Int) (a v : Int) (xs : List PyData) (w : W), (w = .d (.list xs) ∨ w = .ol xs ∨ w = .d (.tuple xs)) → 0 ≤ a → a ≤ 1000000 → 0 ≤ v → xs ≠ [] → xs.length < 1073741824 →
  ∃ (x : PyData) (a' v' : Int), x ∈ xs ∧ a ≤ a' ∧ a' ≤ a + 1 ∧ 0 ≤ v' ∧ cal "_law_one" [penW cells a v, w] = .ok (.w (.d x), [some (penW cells a' v'), some w])
theorem one_ok (cal : Str → Call) (ht : TakeOk cal) (cells : List Int) (a v : Int) (xs : List PyData) (w : W) (hw : w = .d (.list xs) ∨ w = .ol xs ∨ w = .d (.tuple xs)) (h0 : 0 ≤ a) (h1 : a ≤ 1000000) (hv : 0 ≤ v) (hx : xs ≠ []) (hl : xs.length < 1073741824) :
    ∃ (x : PyData) (a' v' : Int), x ∈ xs ∧ a ≤ a' ∧ a' ≤ a + 1 ∧ 0 ≤ v' ∧ runDf ⟨2, 2, okF [false, false]⟩ (c_law_one.den cal (okF [false, false])) [penW cells a v, w] = .ok (.w (.d x), [some (penW cells a' v'), some w]) := by
  have hp : 0 < xs.length := by
    cases xs with
    | nil => exact absurd rfl hx
    | cons _ _ => simp
  obtain ⟨r, a', v', r0, r1, q1, q2, q3, e⟩ := ht cells a v xs.length h0 h1 hv (by omega) (by omega)
  have hi : L2.atI xs r = some (xs[r.toNat]'(by omega)) := at_nat r0 r1
  refine ⟨xs[r.toNat]'(by omega), a', v', List.getElem_mem _, q1, q2, q3, ?_⟩
  rcases hw with rfl | rfl | rfl
  · simp [run_eq, c_law_one, e, hi, MEs.q, ME.q]
  · simp [run_eq, c_law_one, e, hi, MEs.q, ME.q]
  · simp [run_eq, c_law_one, e, hi, MEs.q, ME.q]
end Rf
end

section
set_option Elab.async false
set_option linter.all false
set_option maxRecDepth 10000
/-! Data of bounded size. -/
namespace Rf
open PySem
/-- all that a print, a comparison wants of a datum -/
structure Fine (D W : Nat) (d : PyData) : Prop where
  lay : d.canLay0 = true
  dp : d.depth ≤ D
  wt : d.weight ≤ W
  lv : d.leavesShort 100 = true
  sh : d.showable = true
structure FineL (D W : Nat) (ds : List PyData) : Prop where
  lay : PyData.canLayAll0 ds = true
  dp : PyData.depthAll ds ≤ D
  wt : PyData.weightAll ds ≤ W
  lv : PyData.leavesShortAll 100 ds = true
  sh : PyData.showableAll ds = true
section
variable {D D' W W' : Nat} {d : PyData} {xs ys : List PyData}
theorem Fine.mono (h : Fine D W d) (hd : D ≤ D') (hw : W ≤ W') : Fine D' W' d := ⟨h.lay, Nat.le_trans h.dp hd, Nat.le_trans h.wt hw, h.lv, h.sh⟩
theorem FineL.mono (h : FineL D W xs) (hd : D ≤ D') (hw : W ≤ W') : FineL D' W' xs := ⟨h.lay, Nat.le_trans h.dp hd, Nat.le_trans h.wt hw, h.lv, h.sh⟩
theorem FineL.nil : FineL D W [] := ⟨rfl, Nat.zero_le _, Nat.zero_le _, rfl, rfl⟩
theorem FineL.cons (h : Fine D W d) (t : FineL D W' xs) : FineL D (W + 1 + W') (d :: xs) := by
  refine ⟨?_, ?_, ?_, ?_, ?_⟩
  · show (d.canLay0 && PyData.canLayAll0 xs) = true
    rw [h.lay, t.lay]; rfl
  · show max d.depth (PyData.depthAll xs) ≤ D
    exact Nat.max_le.mpr ⟨h.dp, t.dp⟩
  · show d.weight + 1 + PyData.weightAll xs ≤ _
    have := h.wt; have := t.wt; omega
  · show (d.leavesShort 100 && PyData.leavesShortAll 100 xs) = true
    rw [h.lv, t.lv]; rfl
  · show (d.showable && PyData.showableAll xs) = true
    rw [h.sh, t.sh]; rfl
theorem FineL.uncons (h : FineL D W (d :: xs)) : Fine D (W - 1) d ∧ FineL D (W - 1 - d.weight) xs ∧ d.weight + 1 ≤ W := by
  obtain ⟨h1, h2, h3, h4, h5⟩ := h
  have h1 : (d.canLay0 && PyData.canLayAll0 xs) = true := h1
  have h2 : max d.depth (PyData.depthAll xs) ≤ D := h2
  have h3 : d.weight + 1 + PyData.weightAll xs ≤ W := h3
  have h4 : (d.leavesShort 100 && PyData.leavesShortAll 100 xs) = true := h4
  have h5 : (d.showable && PyData.showableAll xs) = true := h5
  rw [Bool.and_eq_true] at h1 h4 h5
  rw [Nat.max_le] at h2
  exact ⟨⟨h1.1, h2.1, by omega, h4.1, h5.1⟩, ⟨h1.2, h2.2, by omega, h4.2, h5.2⟩, by omega⟩
theorem FineL.at : ∀ {xs : List PyData} {W : Nat}, FineL D W xs → ∀ x ∈ xs, Fine D (W - 1) x
  | [], _, _, _, h => by cases h
  | y :: xs, W, h, x, hx => by
    obtain ⟨h1, h2, h3⟩ := h.uncons
    rcases List.mem_cons.mp hx with rfl | hx
    · exact h1
    · exact (FineL.at h2 x hx).mono (Nat.le_refl _) (by omega)
theorem FineL.append : ∀ {xs : List PyData} {W : Nat}, FineL D W xs → FineL D W' ys → FineL D (W + W') (xs ++ ys)
  | [], W, _, h => h.mono (Nat.le_refl _) (by omega)
  | x :: xs, W, h, t => by
    obtain ⟨h1, h2, h3⟩ := h.uncons
    have := (FineL.append h2 t)
    have h1' : Fine D x.weight x := ⟨h1.lay, h1.dp, Nat.le_refl _, h1.lv, h1.sh⟩
    exact (FineL.cons h1' this).mono (Nat.le_refl _) (by omega)
theorem FineL.take : ∀ {xs : List PyData} {W : Nat} (n : Nat), FineL D W xs → FineL D W (xs.take n)
  | _, _, 0, _ => by rw [List.take_zero]; exact .nil
  | [], _, _ + 1, _ => by rw [List.take_nil]; exact .nil
  | x :: xs, W, n + 1, h => by
    obtain ⟨h1, h2, h3⟩ := h.uncons
    have h1' : Fine D x.weight x := ⟨h1.lay, h1.dp, Nat.le_refl _, h1.lv, h1.sh⟩
    exact (FineL.cons h1' (FineL.take n h2)).mono (Nat.le_refl _) (by omega)
theorem FineL.drop : ∀ {xs : List PyData} {W : Nat} (n : Nat), FineL D W xs → FineL D W (xs.drop n)
  | _, _, 0, h => h
  | [], _, _ + 1, _ => .nil
  | x :: xs, W, n + 1, h => by
    obtain ⟨h1, h2, h3⟩ := h.uncons
    exact (FineL.drop n h2).mono (Nat.le_refl _) (by omega)
theorem FineL.cut {lo hi : Option Int} (h : FineL D W xs) : FineL D W (cutG xs lo hi) := (h.drop _).take _
theorem FineL.len : ∀ {xs : List PyData} {W : Nat}, FineL D W xs → xs.length ≤ W
  | [], _, _ => Nat.zero_le _
  | x :: xs, W, h => by
    obtain ⟨h1, h2, h3⟩ := h.uncons
    have := FineL.len h2
    rw [List.length_cons]
    omega
theorem FineL.tup (h : FineL D W xs) : Fine (D + 1) W (.tuple xs) := ⟨by unfold PyData.canLay0; exact h.lay, by unfold PyData.depth; have := h.dp; omega, by unfold PyData.weight; exact h.wt, by unfold PyData.leavesShort; exact h.lv, by unfold PyData.showable; exact h.sh⟩
theorem FineL.lst (h : FineL D W xs) : Fine (D + 1) W (.list xs) := ⟨by unfold PyData.canLay0; exact h.lay, by unfold PyData.depth; have := h.dp; omega, by unfold PyData.weight; exact h.wt, by unfold PyData.leavesShort; exact h.lv, by unfold PyData.showable; exact h.sh⟩
theorem Fine.untup (h : Fine D W (.tuple xs)) : FineL (D - 1) W xs ∧ 1 ≤ D := by
  obtain ⟨h1, h2, h3, h4, h5⟩ := h
  unfold PyData.canLay0 at h1
  unfold PyData.depth at h2
  unfold PyData.weight at h3
  unfold PyData.leavesShort at h4
  unfold PyData.showable at h5
  exact ⟨⟨h1, by omega, h3, h4, h5⟩, by omega⟩
theorem Fine.unlst (h : Fine D W (.list xs)) : FineL (D - 1) W xs ∧ 1 ≤ D := by
  obtain ⟨h1, h2, h3, h4, h5⟩ := h
  unfold PyData.canLay0 at h1
  unfold PyData.depth at h2
  unfold PyData.weight at h3
  unfold PyData.leavesShort at h4
  unfold PyData.showable at h5
  exact ⟨⟨h1, by omega, h3, h4, h5⟩, by omega⟩
theorem Fine.shaped (h : Fine D W d) (hD : D ≤ 64) : SeqAt.shaped d = true := by
  unfold SeqAt.shaped
  rw [h.lay, decide_eq_true (Nat.le_trans h.dp hD)]; rfl
theorem Fine.shown (h : Fine D W d) (hW : 102 * W + 100 ≤ SZ) : d.shown.length ≤ SZ := by
  have := PyData.shown_le 100 (by decide) d h.lv
  have h2 : 102 * d.weight ≤ 102 * W := Nat.mul_le_mul_left _ h.wt
  omega
theorem Fine.repr (h : Fine D W d) (hD : D ≤ 64) (hW : 102 * W + 100 ≤ SZ) : Bi.sem .repr [.d d] = some (.d (.str d.shown)) := by
  unfold Bi.sem oRepr
  dsimp only
  rw [wview_d, Option.bind_some, h.sh, PyData.hasDict_of_canLay d h.lay, decide_eq_true (Nat.le_trans h.dp hD), decide_eq_true (h.shown hW)]
  rfl
theorem fine_int {i : Int} (h0 : 0 ≤ i) (h : i < 1024) : Fine 0 11 (.int i) := by
  have : ∀ k : Fin 1024, ((PyData.int (k.val : Int)).weight ≤ 11 ∧ (PyData.int (k.val : Int)).leavesShort 100 = true ∧ (PyData.int (k.val : Int)).showable = true) := by decide +kernel
  obtain ⟨k, hk⟩ : ∃ k : Fin 1024, i = (k.val : Int) := ⟨⟨i.toNat, by omega⟩, by simp; omega⟩
  subst hk
  obtain ⟨a, b, c⟩ := this k
  exact ⟨rfl, Nat.le_refl _, a, b, c⟩
end
/-- by looking -/
def fineB (D W : Nat) (d : PyData) : Bool := d.canLay0 && decide (d.depth ≤ D) && decide (d.weight ≤ W) && d.leavesShort 100 && d.showable
theorem fine_by {D W : Nat} {d : PyData} (h : fineB D W d = true) : Fine D W d := by
  unfold fineB at h
  simp only [Bool.and_eq_true, decide_eq_true_eq] at h
  obtain ⟨⟨⟨⟨a, b⟩, c⟩, e⟩, f⟩ := h
  exact ⟨a, b, c, e, f⟩
end Rf
end

section
set_option Elab.async false
set_option linter.all false
set_option maxRecDepth 10000
/-! What is a web: the program's own word. -/
namespace Rf
open PySem
def cis_integer : MSts := (.cons (.ret (.both (.isi .int (.var 0)) (.inv (.isi .bool (.var 0)))))
  .nil)
def cis_below : MSts := (.cons (.ret (.both (.cal "is_integer" (.cons (.var 0) .nil)) (.chain .le .lt (.dat (.int (0))) (.var 0) (.var 1))))
  .nil)
def cis_name : MSts := (.cons (.ife (.alt (.inv (.tru (.isi .str (.var 0)))) (.inv (.tst (.chain .le .le (.dat (.int (1))) (.bi .len (.cons (.var 0) .nil)) (.dat (.int (8))))))) (.cons (.ret (.dat (.bool false)))
  .nil) .nil)
  (.cons (.ret (.bi .all (.cons (.comp [1, 2] (.name 2) (.seq (.var 0)) .yes (.op .isin (.var 2) (.dat (.str "abcdefghijklmnopqrstuvwxyz")))) .nil)))
  .nil))
def cis_row : MSts := (.cons (.ife (.alt (.inv (.tru (.isi .tuple (.var 0)))) (.alt (.tst (.op .ne (.bi .len (.cons (.var 0) .nil)) (.dat (.int (2))))) (.inv (.tru (.cal "is_name" (.cons (.ix (.var 0) (.dat (.int (0)))) .nil)))))) (.cons (.ret (.dat (.bool false)))
  .nil) .nil)
  (.cons (.ife (.tst (.op .is (.ix (.var 0) (.dat (.int (1)))) (.dat .none))) (.cons (.ret (.dat (.bool true)))
  .nil) .nil)
  (.cons (.ife (.alt (.inv (.tru (.isi .tuple (.ix (.var 0) (.dat (.int (1))))))) (.tst (.op .gt (.bi .len (.cons (.ix (.var 0) (.dat (.int (1)))) .nil)) (.dat (.int (4)))))) (.cons (.ret (.dat (.bool false)))
  .nil) .nil)
  (.cons (.ret (.bi .all (.cons (.comp [2, 3] (.name 3) (.seq (.ix (.var 0) (.dat (.int (1))))) .yes (.cal "is_below" (.cons (.var 3) (.cons (.var 1) .nil)))) .nil)))
  .nil))))
def cis_web : MSts := (.cons (.ife (.alt (.inv (.tru (.isi .tuple (.var 0)))) (.inv (.tst (.chain .le .le (.dat (.int (1))) (.bi .len (.cons (.var 0) .nil)) (.dat (.int (120))))))) (.cons (.ret (.dat (.bool false)))
  .nil) .nil)
  (.cons (.ret (.bi .all (.cons (.comp [1, 2] (.name 2) (.seq (.var 0)) .yes (.cal "is_row" (.cons (.var 2) (.cons (.bi .len (.cons (.var 0) .nil)) .nil)))) .nil)))
  .nil))
def tyD : Ty → PyData → Bool
  | .bool, .bool _ => true
  | .int, .bool _ => true
  | .int, .int _ => true
  | .str, .str _ => true
  | .list, .list _ => true
  | .tuple, .tuple _ => true
  | _, _ => false
theorem isi_d {t : Ty} {d : PyData} {e : Env} (h : d.canLay0 = true) : isiR t (some (.d d)) e = .ok (.w (.d (.bool (tyD t d))), e) := by
  cases d with
  | dict _ => simp [PyData.canLay0] at h
  | _ => cases t <;> rfl
@[simp] theorem isi_ol {t : Ty} {xs : List PyData} {e : Env} : isiR t (some (.ol xs)) e = .ok (.w (.d (.bool (t == .list))), e) := by
  cases t <;> rfl
def intB : PyData → Bool
  | .int _ => true
  | _ => false
def belowB (many : Int) : PyData → Bool
  | .int i => decide (0 ≤ i) && decide (i < many)
  | _ => false
theorem is_integer_ok (cal : Str → Call) (d : PyData) (h : d.canLay0 = true) : runDf ⟨1, 1, okF [false]⟩ (cis_integer.den cal (okF [false])) [.d d] = .ok (.w (.d (.bool (intB d))), [some (.d d)]) := by
  have e := fun t e => isi_d (t := t) (e := e) h
  cases d <;> simp [run_eq, cis_integer, e, tyD, intB]
theorem is_below_ok (cal : Str → Call) (d : PyData) (many : Int) (h : d.canLay0 = true) (h1 : cal "is_integer" [.d d] = .ok (.w (.d (.bool (intB d))), [some (.d d)])) :
    runDf ⟨2, 2, okF [false, false]⟩ (cis_below.den cal (okF [false, false])) [.d d, .d (.int many)] = .ok (.w (.d (.bool (belowB many d))), [some (.d d), some (.d (.int many))]) := by
  cases d with
  | int i =>
    by_cases h0 : 0 ≤ i
    · simp [run_eq, cis_below, h1, intB, belowB, kCh3_b, h0]
    · simp [run_eq, cis_below, h1, intB, belowB, kCh3_b, h0]
  | _ => simp [run_eq, cis_below, h1, intB, belowB]
/-- the small letters -/
def lettersB (c : Nat) : Bool := decide (97 ≤ c) && decide (c ≤ 122)
theorem in_letters (c : Nat) : BOp.sem .isin (.str ⟨#[c]⟩) (.str "abcdefghijklmnopqrstuvwxyz") = some (.d (.bool (lettersB c))) := by
  have e : BOp.sem .isin (.str ⟨#[c]⟩) (.str "abcdefghijklmnopqrstuvwxyz") = some (.d (.bool (decide (c ∈ ("abcdefghijklmnopqrstuvwxyz" : Str).cps.toList)))) := rfl
  have e2 : ("abcdefghijklmnopqrstuvwxyz" : Str).cps.toList = [97, 98, 99, 100, 101, 102, 103, 104, 105, 106, 107, 108, 109, 110, 111, 112, 113, 114, 115, 116, 117, 118, 119, 120, 121, 122] := by decide +kernel
  rw [e, e2]
  congr 3
  unfold lettersB
  rw [Bool.eq_iff_iff]
  simp
  omega
def signsB (z : Str) : Bool := z.cps.toList.all lettersB
def nameB : PyData → Bool
  | .str z => decide (1 ≤ z.length) && decide (z.length ≤ 8) && signsB z
  | _ => false
theorem name_loop (cal : Str → Call) (s : W) : ∀ (cs : List Nat) (acc : List PyData), acc.length + cs.length ≤ 100 → 
    compL [1, 2] (Tg.put (fun _ => true) (.name 2)) (MT.den cal .yes) (ME.den cal (.op .isin (.var 2) (.dat (.str "abcdefghijklmnopqrstuvwxyz")))) (cs.map fun c => .str ⟨#[c]⟩) [some s, none, none] acc =
      .ok (acc ++ cs.map (fun c => .bool (lettersB c)), [some s, none, none])
  | [], acc, _ => by simp [comp_nil]
  | c :: cs, acc, h => by
    have hz : acc.length < SZ := by
      have : (100 : Nat) < SZ := by decide
      simp at h
      omega
    have ih := name_loop cal s cs (acc ++ [.bool (lettersB c)]) (by simp at h ⊢; omega)
    rw [List.map_cons, comp_cons]
    simp [in_letters, hz, freeSlot, wipeE, ih, ME.q]
theorem bools_map {α : Type} (f : α → Bool) : ∀ (xs : List α), boolsD (xs.map fun x => .bool (f x)) = some (xs.map f)
  | [] => rfl
  | x :: xs => by
    rw [List.map_cons, List.map_cons]
    show (boolsD (xs.map fun x => .bool (f x))).map _ = _
    rw [bools_map f xs]; rfl
theorem b_all {α : Type} (f : α → Bool) (xs : List α) : Bi.sem .all [.ol (xs.map fun x => .bool (f x))] = some (.d (.bool (xs.all f))) := by
  show ((lstW (.ol (xs.map fun x => .bool (f x)))).bind boolsD).map _ = _
  show (boolsD (xs.map fun x => .bool (f x))).map _ = _
  rw [bools_map]
  simp
theorem b_lens {z : Str} (h : z.length ≤ SZ) : Bi.sem .len [.d (.str z)] = some (.d (.int z.length)) := by
  show (if decide (z.length ≤ SZ) then some z.length else none).map _ = _
  rw [decide_eq_true h]; rfl
theorem is_name_ok (cal : Str → Call) (d : PyData) (W : Nat) (hW : W ≤ SZ) (h : Fine 64 W d) : runDf ⟨1, 3, okF [false]⟩ (cis_name.den cal (okF [false])) [.d d] = .ok (.w (.d (.bool (nameB d))), [some (.d d)]) := by
  have e := fun t e => isi_d (t := t) (e := e) h.lay
  cases d with
  | str z =>
    have hl : z.length ≤ SZ := by
      have := h.wt
      unfold PyData.weight at this
      exact Nat.le_trans this hW
    have e2 := b_lens hl
    by_cases h1 : 1 ≤ z.length
    · by_cases h2 : z.length ≤ 8
      · have h1' : (1 : Int) ≤ z.length := by omega
        have h2' : (z.length : Int) ≤ 8 := by omega
        have hc : z.cps.toList.length ≤ 8 := by
          have : z.length = z.cps.toList.length := by
            show z.cps.size = _
            simp
          omega
        have loop := name_loop cal (.d (.str z)) z.cps.toList [] (by simp at hc ⊢; omega)
        have all := b_all lettersB z.cps.toList
        simp [run_eq, cis_name, e, tyD, nameB, signsB, kCh3_b, e2, h1, h2, h1', h2', charsD, freeSlot, wipeE, backE, loop, all, MEs.q, ME.q]
      · have h1' : (1 : Int) ≤ z.length := by omega
        have h2' : ¬ (z.length : Int) ≤ 8 := by omega
        simp [run_eq, cis_name, e, tyD, nameB, kCh3_b, e2, h1, h2, h1', h2', MEs.q, ME.q]
    · have h1' : ¬ (1 : Int) ≤ z.length := by omega
      simp [run_eq, cis_name, e, tyD, nameB, kCh3_b, e2, h1, h1', MEs.q, ME.q]
  | _ => simp [run_eq, cis_name, e, tyD, nameB]
end Rf
end

section
set_option Elab.async false
set_option linter.all false
set_option maxRecDepth 10000
namespace Rf
open PySem
def allB (many : Int) (ps : List PyData) : Bool := ps.all (belowB many)
def partsB (many : Int) : PyData → Bool
  | .none => true
  | .tuple ps => decide (ps.length ≤ 4) && allB many ps
  | _ => false
def rowB (many : Int) : PyData → Bool
  | .tuple [x, y] => nameB x && partsB many y
  | _ => false
def webB : PyData → Bool
  | .tuple rows => decide (1 ≤ rows.length) && decide (rows.length ≤ 120) && rows.all (rowB rows.length)
  | _ => false
def IntOk (cal : Str → Call) : Prop := ∀ d : PyData, d.canLay0 = true → cal "is_integer" [.d d] = .ok (.w (.d (.bool (intB d))), [some (.d d)])
def BelowOk (cal : Str → Call) : Prop := ∀ (d : PyData) (many : Int), d.canLay0 = true → cal "is_below" [.d d, .d (.int many)] = .ok (.w (.d (.bool (belowB many d))), [some (.d d), some (.d (.int many))])
def NameOk (cal : Str → Call) : Prop := ∀ (d : PyData), Fine 64 SZ d → cal "is_name" [.d d] = .ok (.w (.d (.bool (nameB d))), [some (.d d)])
def RowOk (cal : Str → Call) : Prop := ∀ (d : PyData) (many : Int), Fine 64 SZ d → cal "is_row" [.d d, .d (.int many)] = .ok (.w (.d (.bool (rowB many d))), [some (.d d), some (.d (.int many))])
theorem below_loop (cal : Str → Call) (hb : BelowOk cal) (s : W) (many : Int) : ∀ (ps acc : List PyData), (∀ p ∈ ps, p.canLay0 = true) → acc.length + ps.length ≤ 100 →
    compL [2, 3] (Tg.put (fun _ => true) (.name 3)) (MT.den cal .yes) (ME.den cal (.cal "is_below" (.cons (.var 3) (.cons (.var 1) .nil)))) ps [some s, some (.d (.int many)), none, none] acc =
      .ok (acc ++ ps.map (fun p => .bool (belowB many p)), [some s, some (.d (.int many)), none, none])
  | [], acc, _, _ => by simp [comp_nil]
  | p :: ps, acc, hp, h => by
    have hz : acc.length < SZ := by
      have : (100 : Nat) < SZ := by decide
      simp at h
      omega
    have ih := below_loop cal hb s many ps (acc ++ [.bool (belowB many p)]) (fun q hq => hp q (List.mem_cons_of_mem _ hq)) (by simp at h ⊢; omega)
    have e := hb p many (hp p List.mem_cons_self)
    rw [comp_cons]
    simp [e, hz, freeSlot, wipeE, ih, ME.q, MEs.q]
theorem s_neI {i j : Int} : BOp.sem .ne (.int i) (.int j) = some (.d (.bool (!(i == j)))) := rfl
theorem s_eqI {i j : Int} : BOp.sem .eq (.int i) (.int j) = some (.d (.bool (i == j))) := rfl
theorem isN_none : isN .none = true := rfl
theorem lay_of_fine {D W : Nat} {xs : List PyData} (h : FineL D W xs) : ∀ p ∈ xs, p.canLay0 = true := fun p hp => (h.at p hp).lay
theorem is_row_ok (cal : Str → Call) (hn : NameOk cal) (hb : BelowOk cal) (d : PyData) (many : Int) (h : Fine 64 SZ d) :
    runDf ⟨2, 4, okF [false, false]⟩ (cis_row.den cal (okF [false, false])) [.d d, .d (.int many)] = .ok (.w (.d (.bool (rowB many d))), [some (.d d), some (.d (.int many))]) := by
  have e := fun t e => isi_d (t := t) (e := e) h.lay
  cases d with
  | tuple xs =>
    match xs, h with
    | [], _ => simp [run_eq, cis_row, e, tyD, rowB, s_neI, MEs.q, ME.q]
    | [x], _ => simp [run_eq, cis_row, e, tyD, rowB, s_neI, MEs.q, ME.q]
    | x :: y :: z :: r, _ =>
      have hne : ¬ ((r.length : Int) + 1 + 1 + 1 = 2) := by omega
      simp [run_eq, cis_row, e, tyD, rowB, s_neI, MEs.q, ME.q, hne]
    | [x, y], h =>
      obtain ⟨hl, _⟩ := h.untup
      have hx : Fine 64 SZ x := (hl.at x (by simp)).mono (by omega) (by omega)
      have hy : Fine 64 SZ y := (hl.at y (by simp)).mono (by omega) (by omega)
      have ex := hn x hx
      have ey := fun t e => isi_d (t := t) (e := e) hy.lay
      cases hnm : nameB x with
      | false =>
        rw [hnm] at ex
        simp [run_eq, cis_row, e, ex, tyD, rowB, s_neI, MEs.q, ME.q, hnm]
      | true =>
        rw [hnm] at ex
        cases y with
        | none => simp [run_eq, cis_row, e, ex, ey, tyD, rowB, partsB, s_neI, MEs.q, ME.q, hnm, isN_none]
        | tuple ps =>
          obtain ⟨hp, _⟩ := hy.untup
          by_cases h4 : ps.length ≤ 4
          · have h4' : ¬ (4 : Int) < ps.length := by omega
            have loop := below_loop cal hb (.d (.tuple [x, .tuple ps])) many ps [] (lay_of_fine hp) (by simp; omega)
            have all := b_all (belowB many) ps
            simp [run_eq, cis_row, e, ex, ey, tyD, rowB, partsB, allB, s_neI, MEs.q, ME.q, hnm, isN, h4, h4', freeSlot, wipeE, backE, loop, all]
          · have h4' : (4 : Int) < ps.length := by omega
            simp [run_eq, cis_row, e, ex, ey, tyD, rowB, partsB, s_neI, MEs.q, ME.q, hnm, isN, h4, h4']
        | _ => simp [run_eq, cis_row, e, ex, ey, tyD, rowB, partsB, s_neI, MEs.q, ME.q, hnm, isN]
  | _ => simp [run_eq, cis_row, e, tyD, rowB]
theorem row_loop (cal : Str → Call) (hr : RowOk cal) (rows : List PyData) : ∀ (xs acc : List PyData), (∀ p ∈ xs, Fine 64 SZ p) → acc.length + xs.length ≤ 200 →
    compL [1, 2] (Tg.put (fun _ => true) (.name 2)) (MT.den cal .yes) (ME.den cal (.cal "is_row" (.cons (.var 2) (.cons (.bi .len (.cons (.var 0) .nil)) .nil)))) xs [some (.d (.tuple rows)), none, none] acc =
      .ok (acc ++ xs.map (fun p => .bool (rowB rows.length p)), [some (.d (.tuple rows)), none, none])
  | [], acc, _, _ => by simp [comp_nil]
  | p :: ps, acc, hp, h => by
    have hz : acc.length < SZ := by
      have : (200 : Nat) < SZ := by decide
      simp at h
      omega
    have ih := row_loop cal hr rows ps (acc ++ [.bool (rowB rows.length p)]) (fun q hq => hp q (List.mem_cons_of_mem _ hq)) (by simp at h ⊢; omega)
    have e := hr p rows.length (hp p List.mem_cons_self)
    rw [comp_cons]
    simp [e, hz, freeSlot, wipeE, ih, ME.q, MEs.q]
theorem is_web_ok (cal : Str → Call) (hr : RowOk cal) (d : PyData) (h : Fine 64 SZ d) :
    runDf ⟨1, 3, okF [false]⟩ (cis_web.den cal (okF [false])) [.d d] = .ok (.w (.d (.bool (webB d))), [some (.d d)]) := by
  have e := fun t e => isi_d (t := t) (e := e) h.lay
  cases d with
  | tuple rows =>
    obtain ⟨hl, _⟩ := h.untup
    by_cases h1 : 1 ≤ rows.length
    · have h1' : (1 : Int) ≤ rows.length := by omega
      by_cases h2 : rows.length ≤ 120
      · have h2' : (rows.length : Int) ≤ 120 := by omega
        have loop := row_loop cal hr rows rows [] (fun p hp => (hl.at p hp).mono (by omega) (by omega)) (by simp; omega)
        have all := b_all (rowB rows.length) rows
        simp [run_eq, cis_web, e, tyD, webB, kCh3_b, h1, h2, h1', h2', freeSlot, wipeE, backE, loop, all, MEs.q, ME.q]
      · have h2' : ¬ (rows.length : Int) ≤ 120 := by omega
        simp [run_eq, cis_web, e, tyD, webB, kCh3_b, h1, h2, h1', h2', MEs.q, ME.q]
    · have h1' : ¬ (1 : Int) ≤ rows.length := by omega
      simp [run_eq, cis_web, e, tyD, webB, kCh3_b, h1, h1', MEs.q, ME.q]
  | _ => simp [run_eq, cis_web, e, tyD, webB]
end Rf
end

section
set_option Elab.async false
set_option linter.all false
set_option maxRecDepth 10000
/-! What is a web: the law's word. -/
namespace Rf
open PySem
def c_law_is_whole : MSts := (.cons (.ret (.both (.isi .int (.var 0)) (.inv (.isi .bool (.var 0)))))
  .nil)
def lawRowB : MSts := (.cons (.ife (.alt (.inv (.tru (.isi .tuple (.var 1)))) (.alt (.tst (.op .ne (.bi .len (.cons (.var 1) .nil)) (.dat (.int (2))))) (.inv (.tru (.isi .str (.ix (.var 1) (.dat (.int (0))))))))) (.cons (.ret (.dat (.bool false)))
  .nil) .nil)
  (.cons (.ife (.alt (.inv (.tst (.chain .le .le (.dat (.int (1))) (.bi .len (.cons (.ix (.var 1) (.dat (.int (0)))) .nil)) (.dat (.int (8)))))) (.tst (.op .ne (.comp [2, 3] (.name 3) (.seq (.ix (.var 1) (.dat (.int (0))))) (.inv (.tst (.chain .le .le (.dat (.str "a")) (.var 3) (.dat (.str "z"))))) (.var 3)) (.lst .nil)))) (.cons (.ret (.dat (.bool false)))
  .nil) .nil)
  (.cons (.ife (.tst (.op .isNot (.ix (.var 1) (.dat (.int (1)))) (.dat .none))) (.cons (.ife (.alt (.inv (.tru (.isi .tuple (.ix (.var 1) (.dat (.int (1))))))) (.tst (.op .gt (.bi .len (.cons (.ix (.var 1) (.dat (.int (1)))) .nil)) (.dat (.int (4)))))) (.cons (.ret (.dat (.bool false)))
  .nil) .nil)
  (.cons (.ife (.tst (.op .ne (.comp [2, 4] (.name 4) (.seq (.ix (.var 1) (.dat (.int (1))))) (.alt (.inv (.tru (.cal "_law_is_whole" (.cons (.var 4) .nil)))) (.inv (.tst (.chain .le .lt (.dat (.int (0))) (.var 4) (.bi .len (.cons (.var 0) .nil)))))) (.var 4)) (.lst .nil))) (.cons (.ret (.dat (.bool false)))
  .nil) .nil)
  .nil)) .nil)
  .nil)))
def c_law_is_web : MSts := (.cons (.ife (.alt (.inv (.tru (.isi .tuple (.var 0)))) (.inv (.tst (.chain .le .le (.dat (.int (1))) (.bi .len (.cons (.var 0) .nil)) (.dat (.int (120))))))) (.cons (.ret (.dat (.bool false)))
  .nil) .nil)
  (.cons (.loop (.name 1) (.seq (.var 0)) lawRowB)
  (.cons (.ret (.dat (.bool true)))
  .nil)))
theorem is_whole_ok (cal : Str → Call) (d : PyData) (h : d.canLay0 = true) : runDf ⟨1, 1, okF [false]⟩ (c_law_is_whole.den cal (okF [false])) [.d d] = .ok (.w (.d (.bool (intB d))), [some (.d d)]) := by
  have e := fun t e => isi_d (t := t) (e := e) h
  cases d <;> simp [run_eq, c_law_is_whole, e, tyD, intB]
theorem str_a : ("a" : Str).cps.toList = [97] := by decide +kernel
theorem str_z : ("z" : Str).cps.toList = [122] := by decide +kernel
theorem le_a (c : Nat) : BOp.sem .le (.str "a") (.str ⟨#[c]⟩) = some (.d (.bool (decide (97 ≤ c)))) := by
  have e : BOp.sem .le (.str "a") (.str ⟨#[c]⟩) = some (.d (.bool (!sLt ⟨#[c]⟩ "a"))) := rfl
  rw [e]
  congr 3
  unfold sLt
  rw [str_a]
  rw [Bool.eq_iff_iff]
  simp [List.cons_lt_cons_iff]
theorem le_z (c : Nat) : BOp.sem .le (.str ⟨#[c]⟩) (.str "z") = some (.d (.bool (decide (c ≤ 122)))) := by
  have e : BOp.sem .le (.str ⟨#[c]⟩) (.str "z") = some (.d (.bool (!sLt "z" ⟨#[c]⟩))) := rfl
  rw [e]
  congr 3
  unfold sLt
  rw [str_z]
  rw [Bool.eq_iff_iff]
  simp [List.cons_lt_cons_iff]
theorem ne_nil {xs : List PyData} (h : SeqAt.shaped (.list xs) = true) : BOp.sem .ne (.list xs) (.list []) = some (.d (.bool (!xs.isEmpty))) := by
  have e : BOp.sem .ne (.list xs) (.list []) = (if SeqAt.shaped (.list xs) && SeqAt.shaped (.list []) then some (.d (.bool (!PyData.eqv (.list xs) (.list [])))) else none) := rfl
  have e2 : SeqAt.shaped (.list []) = true := rfl
  rw [e, h, e2]
  cases xs <;> simp [PyData.eqv, PyData.eqvAll]
/-- the signs that are no letters -/
theorem sign_loop (cal : Str → Call) (s r x4 : Option W) : ∀ (cs : List Nat) (acc : List PyData), acc.length + cs.length ≤ 100 →
    compL [2, 3] (Tg.put (fun _ => true) (.name 3)) (MT.den cal (.inv (.tst (.chain .le .le (.dat (.str "a")) (.var 3) (.dat (.str "z")))))) (ME.den cal (.var 3)) (cs.map fun c => .str ⟨#[c]⟩) [s, r, none, none, x4] acc =
      .ok (acc ++ (cs.filter fun c => !lettersB c).map (fun c => .str ⟨#[c]⟩), [s, r, none, none, x4])
  | [], acc, _ => by simp [comp_nil]
  | c :: cs, acc, h => by
    have hz : acc.length < SZ := by
      have : (100 : Nat) < SZ := by decide
      simp at h
      omega
    have ih := sign_loop cal s r x4 cs (acc ++ [.str ⟨#[c]⟩]) (by simp at h ⊢; omega)
    have ih2 := sign_loop cal s r x4 cs acc (by simp at h ⊢; omega)
    rw [List.map_cons, comp_cons]
    by_cases h1 : 97 ≤ c
    · by_cases h2 : c ≤ 122
      · simp [le_a, le_z, hz, freeSlot, wipeE, ih, ih2, ME.q, kCh3_b, h1, h2, lettersB]
      · simp [le_a, le_z, hz, freeSlot, wipeE, ih, ih2, ME.q, kCh3_b, h1, h2, lettersB]
    · simp [le_a, le_z, hz, freeSlot, wipeE, ih, ih2, ME.q, kCh3_b, h1, lettersB]
/-- the parts that are none -/
def WholeOk (cal : Str → Call) : Prop := ∀ d : PyData, d.canLay0 = true → cal "_law_is_whole" [.d d] = .ok (.w (.d (.bool (intB d))), [some (.d d)])
theorem part_loop (cal : Str → Call) (hw : WholeOk cal) (rows : List PyData) (r x3 : Option W) : ∀ (ps acc : List PyData), (∀ p ∈ ps, p.canLay0 = true) → acc.length + ps.length ≤ 100 →
    compL [2, 4] (Tg.put (fun _ => true) (.name 4)) (MT.den cal (.alt (.inv (.tru (.cal "_law_is_whole" (.cons (.var 4) .nil)))) (.inv (.tst (.chain .le .lt (.dat (.int (0))) (.var 4) (.bi .len (.cons (.var 0) .nil))))))) (ME.den cal (.var 4)) ps [some (.d (.tuple rows)), r, none, x3, none] acc =
      .ok (acc ++ ps.filter (fun p => !belowB rows.length p), [some (.d (.tuple rows)), r, none, x3, none])
  | [], acc, _, _ => by simp [comp_nil]
  | p :: ps, acc, hp, h => by
    have hz : acc.length < SZ := by
      have : (100 : Nat) < SZ := by decide
      simp at h
      omega
    have ih := part_loop cal hw rows r x3 ps (acc ++ [p]) (fun q hq => hp q (List.mem_cons_of_mem _ hq)) (by simp at h ⊢; omega)
    have ih2 := part_loop cal hw rows r x3 ps acc (fun q hq => hp q (List.mem_cons_of_mem _ hq)) (by simp at h ⊢; omega)
    have e := hw p (hp p List.mem_cons_self)
    rw [comp_cons]
    cases p with
    | int i =>
      by_cases h1 : 0 ≤ i
      · by_cases h2 : i < rows.length
        · simp [e, hz, freeSlot, wipeE, ih, ih2, ME.q, MEs.q, kCh3_b, h1, h2, intB, belowB]
        · simp [e, hz, freeSlot, wipeE, ih, ih2, ME.q, MEs.q, kCh3_b, h1, h2, intB, belowB]
      · simp [e, hz, freeSlot, wipeE, ih, ih2, ME.q, MEs.q, kCh3_b, h1, intB, belowB]
    | _ => simp [e, hz, freeSlot, wipeE, ih, ih2, ME.q, MEs.q, intB, belowB]
theorem lay_filter {p : PyData → Bool} : ∀ {xs : List PyData}, PyData.canLayAll0 xs = true → PyData.canLayAll0 (xs.filter p) = true
  | [], _ => rfl
  | x :: xs, h => by
    have h' : (x.canLay0 && PyData.canLayAll0 xs) = true := h
    rw [Bool.and_eq_true] at h'
    rw [List.filter_cons]
    split
    · show (x.canLay0 && PyData.canLayAll0 (xs.filter p)) = true
      rw [h'.1, lay_filter h'.2]; rfl
    · exact lay_filter h'.2
theorem dp_filter {p : PyData → Bool} : ∀ {xs : List PyData}, PyData.depthAll (xs.filter p) ≤ PyData.depthAll xs
  | [] => Nat.le_refl _
  | x :: xs => by
    have ih := dp_filter (p := p) (xs := xs)
    rw [List.filter_cons]
    have e : PyData.depthAll (x :: xs) = max x.depth (PyData.depthAll xs) := rfl
    split
    · show max x.depth (PyData.depthAll (xs.filter p)) ≤ _
      rw [e]; omega
    · rw [e]; omega
theorem shaped_filter {p : PyData → Bool} {xs : List PyData} {D W : Nat} (h : FineL D W xs) (hD : D < 64) : SeqAt.shaped (.list (xs.filter p)) = true := by
  have h1 := lay_filter (p := p) h.lay
  have h2 := dp_filter (p := p) (xs := xs)
  have h3 := h.dp
  unfold SeqAt.shaped
  have e1 : PyData.canLay0 (.list (xs.filter p)) = true := by
    unfold PyData.canLay0; exact h1
  have e2 : PyData.depth (.list (xs.filter p)) ≤ 64 := by
    unfold PyData.depth; omega
  rw [e1, decide_eq_true e2]; rfl
theorem shaped_signs {p : Nat → Bool} : ∀ {cs : List Nat}, (∀ c ∈ cs, c < 0x110000) → SeqAt.shaped (.list ((cs.filter p).map fun c => .str ⟨#[c]⟩)) = true := fun {cs} h => by
  have key : ∀ ds : List Nat, (∀ c ∈ ds, c < 0x110000) → PyData.canLayAll0 (ds.map fun c => .str ⟨#[c]⟩) = true ∧ PyData.depthAll (ds.map fun c => PyData.str ⟨#[c]⟩) = 0 := fun ds => by
    induction ds with
    | nil => exact fun _ => ⟨rfl, rfl⟩
    | cons c ds ih =>
      intro h
      obtain ⟨a, b⟩ := ih fun c hc => h c (List.mem_cons_of_mem _ hc)
      rw [List.map_cons]
      refine ⟨?_, ?_⟩
      · show (PyData.canLay0 (.str ⟨#[c]⟩) && PyData.canLayAll0 _) = true
        rw [a]
        have := h c List.mem_cons_self
        unfold PyData.canLay0 PyData.strOk
        simp [this]
      · show max _ (PyData.depthAll _) = 0
        rw [b]; rfl
  obtain ⟨a, b⟩ := key (cs.filter p) fun c hc => h c (List.mem_filter.mp hc).1
  unfold SeqAt.shaped
  have e1 : PyData.canLay0 (.list ((cs.filter p).map fun c => .str ⟨#[c]⟩)) = true := by
    unfold PyData.canLay0; exact a
  have e2 : PyData.depth (.list ((cs.filter p).map fun c => PyData.str ⟨#[c]⟩)) ≤ 64 := by
    unfold PyData.depth; omega
  rw [e1, decide_eq_true e2]; rfl
theorem filt_all {α : Type} (p : α → Bool) (xs : List α) : (xs.filter fun x => !p x).isEmpty = xs.all p := by
  induction xs with
  | nil => rfl
  | cons x xs ih =>
    rw [List.filter_cons, List.all_cons]
    cases hp : p x with
    | true => simpa using ih
    | false => simp
end Rf
end

section
set_option Elab.async false
set_option linter.all false
set_option maxRecDepth 10000
namespace Rf
open PySem
/-- one row: on, or out with False -/
theorem law_row (cal : Str → Call) (hw : WholeOk cal) (rows : List PyData) (row : PyData) (h : Fine 63 SZ row) :
    lawRowB.den cal (okF [false]) [some (.d (.tuple rows)), some (.d row), none, none, none] =
      if rowB rows.length row then .ok (.nx, [some (.d (.tuple rows)), some (.d row), none, none, none]) else .ok (.ret (.w (.d (.bool false))), [some (.d (.tuple rows)), some (.d row), none, none, none]) := by
  have e := fun t e => isi_d (t := t) (e := e) h.lay
  have nz : (0 : Nat) ≤ SZ := Nat.zero_le _
  cases row with
  | tuple xs =>
    match xs, h with
    | [], _ => simp [lawRowB, e, tyD, rowB, s_neI, MEs.q, ME.q]
    | [x], _ => simp [lawRowB, e, tyD, rowB, s_neI, MEs.q, ME.q]
    | x :: y :: z :: r, _ =>
      have hne : ¬ ((r.length : Int) + 1 + 1 + 1 = 2) := by omega
      simp [lawRowB, e, tyD, rowB, s_neI, MEs.q, ME.q, hne]
    | [x, y], h =>
      obtain ⟨hl, _⟩ := h.untup
      have hx : Fine 64 SZ x := (hl.at x (by simp)).mono (by omega) (by omega)
      have hy : Fine 62 SZ y := (hl.at y (by simp)).mono (by omega) (by omega)
      have ex := fun t e => isi_d (t := t) (e := e) hx.lay
      have ey := fun t e => isi_d (t := t) (e := e) hy.lay
      cases x with
      | str z =>
        have hlz : z.length ≤ SZ := by
          have := hx.wt
          unfold PyData.weight at this
          exact this
        have e2 := b_lens hlz
        have hlen : z.length = z.cps.toList.length := by
          show z.cps.size = _
          simp
        by_cases h1 : 1 ≤ z.length
        · by_cases h2 : z.length ≤ 8
          · have h1' : (1 : Int) ≤ z.length := by omega
            have h2' : (z.length : Int) ≤ 8 := by omega
            have loop := sign_loop cal (some (.d (.tuple rows))) (some (.d (.tuple [.str z, y]))) none z.cps.toList [] (by rw [← hlen]; simp; omega)
            have hcp : ∀ c ∈ z.cps.toList, c < 0x110000 := by
              have := hx.lay
              unfold PyData.canLay0 PyData.strOk at this
              intro c hc
              have h3 := Array.all_eq_true'.mp this c (by simpa using hc)
              simpa using h3
            have sh := shaped_signs (p := fun c => !lettersB c) hcp
            have nn := ne_nil sh
            have ea : (z.cps.toList.filter fun c => !lettersB c).isEmpty = signsB z := filt_all lettersB z.cps.toList
            have emp : ((z.cps.toList.filter fun c => !lettersB c).map fun c => PyData.str ⟨#[c]⟩).isEmpty = (z.cps.toList.filter fun c => !lettersB c).isEmpty := by
              cases (z.cps.toList.filter fun c => !lettersB c) <;> rfl
            rw [emp, ea] at nn
            cases hall : signsB z with
            | false =>
              rw [hall] at nn
              simp only [List.nil_append] at loop
              simp only [Bool.not_false] at nn
              simp [lawRowB, e, ex, ey, tyD, rowB, nameB, s_neI, MEs.q, ME.q, kCh3_b, e2, h1, h2, h1', h2', charsD, freeSlot, wipeE, backE, nz]
              rw [loop]
              simp [nn, backE, hall]
            | true =>
              rw [hall] at nn
              simp only [List.nil_append] at loop
              simp only [Bool.not_true] at nn
              cases y with
              | none =>
                simp [lawRowB, e, ex, ey, tyD, rowB, nameB, partsB, s_neI, MEs.q, ME.q, kCh3_b, e2, h1, h2, h1', h2', charsD, freeSlot, wipeE, backE, nz]
                rw [loop]
                simp [nn, backE, hall, isN]
              | tuple ps =>
                obtain ⟨hp, _⟩ := hy.untup
                by_cases h4 : ps.length ≤ 4
                · have h4' : ¬ (4 : Int) < ps.length := by omega
                  have loop2 := part_loop cal hw rows (some (.d (.tuple [.str z, .tuple ps]))) none ps [] (lay_of_fine hp) (by simp; omega)
                  have sh2 := shaped_filter (p := fun p => !belowB rows.length p) hp (by omega)
                  have nn2 := ne_nil sh2
                  have ea2 : (ps.filter fun p => !belowB rows.length p).isEmpty = allB rows.length ps := filt_all (belowB rows.length) ps
                  rw [ea2] at nn2
                  simp only [List.nil_append] at loop2
                  simp [lawRowB, e, ex, ey, tyD, rowB, nameB, partsB, s_neI, MEs.q, ME.q, kCh3_b, e2, h1, h2, h1', h2', charsD, freeSlot, wipeE, backE, nz]
                  rw [loop]
                  simp [nn, backE, hall, isN, ey, tyD, h4, h4', MEs.q, ME.q, freeSlot, wipeE, nz]
                  rw [loop2]
                  cases hb : allB rows.length ps with
                  | true =>
                    rw [hb] at nn2
                    simp [nn2, backE, hb]
                  | false =>
                    rw [hb] at nn2
                    simp [nn2, backE, hb]
                · have h4' : (4 : Int) < ps.length := by omega
                  simp [lawRowB, e, ex, ey, tyD, rowB, nameB, partsB, s_neI, MEs.q, ME.q, kCh3_b, e2, h1, h2, h1', h2', charsD, freeSlot, wipeE, backE, nz]
                  rw [loop]
                  simp [nn, backE, hall, isN, ey, tyD, h4, h4', MEs.q, ME.q]
              | _ =>
                simp [lawRowB, e, ex, ey, tyD, rowB, nameB, partsB, s_neI, MEs.q, ME.q, kCh3_b, e2, h1, h2, h1', h2', charsD, freeSlot, wipeE, backE, nz]
                rw [loop]
                simp [nn, backE, hall, isN, ey, tyD, MEs.q, ME.q]
          · have h1' : (1 : Int) ≤ z.length := by omega
            have h2' : ¬ (z.length : Int) ≤ 8 := by omega
            simp [lawRowB, e, ex, tyD, rowB, nameB, s_neI, MEs.q, ME.q, kCh3_b, e2, h1, h2, h1', h2']
        · have h1' : ¬ (1 : Int) ≤ z.length := by omega
          simp [lawRowB, e, ex, tyD, rowB, nameB, s_neI, MEs.q, ME.q, kCh3_b, e2, h1, h1']
      | _ => simp [lawRowB, e, ex, tyD, rowB, nameB, s_neI, MEs.q, ME.q]
  | _ => simp [lawRowB, e, tyD, rowB]
end Rf
end

section
set_option Elab.async false
set_option linter.all false
set_option maxRecDepth 10000
namespace Rf
open PySem
def rowsB (n : Int) (xs : List PyData) : Bool := xs.all (rowB n)
theorem law_rows (cal : Str → Call) (hw : WholeOk cal) (rows : List PyData) : ∀ (xs : List PyData) (x1 : Option W), (∀ p ∈ xs, Fine 63 SZ p) →
    ∃ x1' : Option W, forL (Tg.put (okF [false]) (.name 1)) (lawRowB.den cal (okF [false])) xs [some (.d (.tuple rows)), x1, none, none, none] =
      if rowsB rows.length xs then .ok (.nx, [some (.d (.tuple rows)), x1', none, none, none]) else .ok (.ret (.w (.d (.bool false))), [some (.d (.tuple rows)), x1', none, none, none])
  | [], x1, _ => ⟨x1, by simp [for_nil, rowsB]⟩
  | p :: ps, x1, h => by
    have e := law_row cal hw rows p (h p List.mem_cons_self)
    obtain ⟨x1', ih⟩ := law_rows cal hw rows ps (some (.d p)) fun q hq => h q (List.mem_cons_of_mem _ hq)
    cases hb : rowB rows.length p with
    | true =>
      rw [hb] at e
      refine ⟨x1', ?_⟩
      rw [for_cons]
      have e3 : rowsB rows.length (p :: ps) = rowsB rows.length ps := by simp [rowsB, hb]
      rw [e3, ← ih]
      simp [e]
    | false =>
      rw [hb] at e
      refine ⟨some (.d p), ?_⟩
      rw [for_cons]
      have e3 : rowsB rows.length (p :: ps) = false := by simp [rowsB, hb]
      rw [e3]
      simp [e]
theorem law_is_web_ok (cal : Str → Call) (hw : WholeOk cal) (d : PyData) (h : Fine 64 SZ d) :
    runDf ⟨1, 5, okF [false]⟩ (c_law_is_web.den cal (okF [false])) [.d d] = .ok (.w (.d (.bool (webB d))), [some (.d d)]) := by
  have e := fun t e => isi_d (t := t) (e := e) h.lay
  cases d with
  | tuple rows =>
    obtain ⟨hl, _⟩ := h.untup
    by_cases h1 : 1 ≤ rows.length
    · have h1' : (1 : Int) ≤ rows.length := by omega
      by_cases h2 : rows.length ≤ 120
      · have h2' : (rows.length : Int) ≤ 120 := by omega
        obtain ⟨x1', loop⟩ := law_rows cal hw rows rows none (fun p hp => (hl.at p hp).mono (by omega) (by omega))
        have eb : webB (.tuple rows) = rowsB rows.length rows := by simp [webB, rowsB, h1, h2]
        rw [eb]
        cases hb : rowsB rows.length rows with
        | true =>
          rw [hb] at loop
          simp [run_eq, c_law_is_web, e, tyD, kCh3_b, h1, h2, h1', h2', MEs.q, ME.q, loop]
        | false =>
          rw [hb] at loop
          simp [run_eq, c_law_is_web, e, tyD, kCh3_b, h1, h2, h1', h2', MEs.q, ME.q, loop]
      · have h2' : ¬ (rows.length : Int) ≤ 120 := by omega
        simp [run_eq, c_law_is_web, e, tyD, webB, kCh3_b, h1, h2, h1', h2', MEs.q, ME.q]
    · have h1' : ¬ (1 : Int) ≤ rows.length := by omega
      simp [run_eq, c_law_is_web, e, tyD, webB, kCh3_b, h1, h1', MEs.q, ME.q]
  | _ => simp [run_eq, c_law_is_web, e, tyD, webB]
end Rf
end

section
set_option Elab.async false
set_option linter.all false
set_option maxRecDepth 10000
/-! A web is drawn. -/
namespace Rf
open PySem
def nearE : ME := (.op .mod (.bi .int (.cons (.op .add (.op .add (.var 7) (.dat (.int (1)))) (.cal "_law_take" (.cons (.var 0) (.cons (.dat (.int (3))) .nil)))) .nil)) (.var 1))
def near2E : ME := (.cal "_law_one" (.cons (.var 0) (.cons (.lst (.cons (.var 13) (.cons (.var 13) (.cons (.cal "_law_take" (.cons (.var 0) (.cons (.var 1) .nil))) .nil)))) .nil)))
def drawnElse : MSts := (.cons (.asg (.tup [(.name 8), (.name 9)]) (.cal "_law_one" (.cons (.var 0) (.cons (.var 4) .nil))))
  (.cons (.set 10 (.comp [11, 12] (.name 12) (.rng1 (.var 9)) .yes nearE))
  (.cons (.set 10 (.comp [11, 13] (.name 13) (.seq (.var 10)) .yes near2E))
  (.cons (.expr (.app (.var 6) (.tup (.cons (.var 8) (.cons (.bi .tuple (.cons (.var 10) .nil)) .nil)))))
  .nil))))
def drawnB : MSts := (.cons (.ife (.both (.tst (.op .ne (.var 5) (.lst .nil))) (.tst (.op .eq (.cal "_law_take" (.cons (.var 0) (.cons (.dat (.int (4))) .nil))) (.dat (.int (0)))))) (.cons (.expr (.app (.var 6) (.tup (.cons (.cal "_law_one" (.cons (.var 0) (.cons (.var 5) .nil))) (.cons (.dat .none) .nil)))))
  .nil) drawnElse)
  .nil)
def c_law_drawn_web : MSts := (.cons (.set 4 (.sl (.lst (.cons (.tup (.cons (.dat (.str "f")) (.cons (.dat (.int (2))) .nil))) (.cons (.tup (.cons (.dat (.str "g")) (.cons (.dat (.int (1))) .nil))) (.cons (.tup (.cons (.dat (.str "a")) (.cons (.dat (.int (0))) .nil))) (.cons (.tup (.cons (.dat (.str "h")) (.cons (.dat (.int (3))) .nil))) (.cons (.tup (.cons (.dat (.str "b")) (.cons (.dat (.int (0))) .nil))) (.cons (.tup (.cons (.dat (.str "f")) (.cons (.dat (.int (1))) .nil))) (.cons (.tup (.cons (.dat (.str "k")) (.cons (.dat (.int (4))) .nil))) .nil)))))))) .none (.some (.var 2))))
  (.cons (.par [5, 6] (.cons (.sl (.lst (.cons (.dat (.str "x")) (.cons (.dat (.str "y")) (.cons (.dat (.str "a")) (.cons (.dat (.str "xa")) (.cons (.dat (.str "f")) .nil)))))) .none (.some (.var 3))) (.cons (.lst .nil) .nil)))
  (.cons (.loop (.name 7) (.rng1 (.var 1)) drawnB)
  (.cons (.ret (.bi .tuple (.cons (.var 6) .nil)))
  .nil))))
theorem near_loop (cal : Str → Call) (ht : TakeOk cal) (cells : List Int) (many num : Int) (hm : 0 < many) (s2 s3 s4 s5 s6 s8 s9 s10 : Option W) :
    ∀ (xs : List PyData) (acc : List PyData) (a v : Int), 0 ≤ a → a + xs.length ≤ 1000000 → 0 ≤ v → acc.length + xs.length ≤ 100 →
    ∃ (ys : List Int) (a' v' : Int), ys.length = xs.length ∧ (∀ y ∈ ys, 0 ≤ y ∧ y < many) ∧ a ≤ a' ∧ a' ≤ a + xs.length ∧ 0 ≤ v' ∧
      compL [11, 12] (Tg.put (fun _ => true) (.name 12)) (MT.den cal .yes) (ME.den cal nearE) xs [some (penW cells a v), some (.d (.int many)), s2, s3, s4, s5, s6, some (.d (.int num)), s8, s9, s10, none, none, none] acc =
        .ok (acc ++ ys.map .int, [some (penW cells a' v'), some (.d (.int many)), s2, s3, s4, s5, s6, some (.d (.int num)), s8, s9, s10, none, none, none])
  | [], acc, a, v, h0, h1, hv, hl => ⟨[], a, v, rfl, (fun _ h => by cases h), by omega, by simp, hv, by simp [comp_nil]⟩
  | x :: xs, acc, a, v, h0, h1, hv, hl => by
    simp only [List.length_cons] at h1 hl
    obtain ⟨r, a1, v1, r0, r1, q1, q2, q3, e⟩ := ht cells a v 3 h0 (by omega) hv (by decide) (by decide)
    have m1 : BOp.sem .mod (.int (num + 1 + r)) (.int many) = some (.d (.int ((num + 1 + r) % many))) := s_modI hm
    obtain ⟨ys, a', v', l, hy, p1, p2, p3, ih⟩ := near_loop cal ht cells many num hm s2 s3 s4 s5 s6 s8 s9 s10 xs (acc ++ [.int ((num + 1 + r) % many)]) a1 v1 (by omega) (by omega) q3 (by simp; omega)
    refine ⟨(num + 1 + r) % many :: ys, a', v', by simp [l], fun y h => ?_, by omega, by simp only [List.length_cons]; omega, p3, ?_⟩
    · rcases List.mem_cons.mp h with rfl | h
      · exact ⟨Int.emod_nonneg _ (by omega), Int.emod_lt_of_pos _ hm⟩
      · exact hy y h
    · have hz : acc.length < SZ := by
        have : (100 : Nat) < SZ := by decide
        omega
      rw [comp_cons]
      simp only [List.append_assoc, List.singleton_append] at ih
      simp [nearE, e, m1, hz, freeSlot, wipeE, ME.q, MEs.q]
      exact ih
theorem near2_loop (cal : Str → Call) (ht : TakeOk cal) (ho : OneOk cal) (cells : List Int) (many : Int) (hm : 0 < many) (hm2 : many < 1073741824) (s2 s3 s4 s5 s6 s7 s8 s9 s10 : Option W) :
    ∀ (xs : List Int) (acc : List PyData) (a v : Int), (∀ x ∈ xs, 0 ≤ x ∧ x < many) → 0 ≤ a → a + 2 * xs.length ≤ 1000000 → 0 ≤ v → acc.length + xs.length ≤ 100 →
    ∃ (ys : List Int) (a' v' : Int), ys.length = xs.length ∧ (∀ y ∈ ys, 0 ≤ y ∧ y < many) ∧ a ≤ a' ∧ a' ≤ a + 2 * xs.length ∧ 0 ≤ v' ∧
      compL [11, 13] (Tg.put (fun _ => true) (.name 13)) (MT.den cal .yes) (ME.den cal near2E) (xs.map .int) [some (penW cells a v), some (.d (.int many)), s2, s3, s4, s5, s6, s7, s8, s9, s10, none, none, none] acc =
        .ok (acc ++ ys.map .int, [some (penW cells a' v'), some (.d (.int many)), s2, s3, s4, s5, s6, s7, s8, s9, s10, none, none, none])
  | [], acc, a, v, hx, h0, h1, hv, hl => ⟨[], a, v, rfl, (fun _ h => by cases h), by omega, by simp, hv, by simp [comp_nil]⟩
  | x :: xs, acc, a, v, hx, h0, h1, hv, hl => by
    simp only [List.length_cons] at h1 hl
    obtain ⟨r, a1, v1, r0, r1, q1, q2, q3, e⟩ := ht cells a v many h0 (by omega) hv hm hm2
    obtain ⟨y, a2, v2, hy0, u1, u2, u3, e2⟩ := ho cells a1 v1 [.int x, .int x, .int r] (.ol [.int x, .int x, .int r]) (.inr (.inl rfl)) (by omega) (by omega) q3 (by simp) (by simp)
    have hxx := hx x List.mem_cons_self
    obtain ⟨yi, rfl, hyi⟩ : ∃ yi : Int, y = .int yi ∧ 0 ≤ yi ∧ yi < many := by
      simp at hy0
      rcases hy0 with rfl | rfl
      · exact ⟨x, rfl, hxx⟩
      · exact ⟨r, rfl, r0, r1⟩
    obtain ⟨ys, a', v', l, hy, p1, p2, p3, ih⟩ := near2_loop cal ht ho cells many hm hm2 s2 s3 s4 s5 s6 s7 s8 s9 s10 xs (acc ++ [.int yi]) a2 v2 (fun z hz => hx z (List.mem_cons_of_mem _ hz)) (by omega) (by omega) u3 (by simp; omega)
    refine ⟨yi :: ys, a', v', by simp [l], fun z h => ?_, by omega, by simp only [List.length_cons]; omega, p3, ?_⟩
    · rcases List.mem_cons.mp h with rfl | h
      · exact hyi
      · exact hy z h
    · have hz : acc.length < SZ := by
        have : (100 : Nat) < SZ := by decide
        omega
      have h3 : (3 : Nat) ≤ SZ := by decide
      rw [List.map_cons, comp_cons]
      simp only [List.append_assoc, List.singleton_append] at ih
      simp [near2E, e, e2, hz, h3, freeSlot, wipeE, ME.q, MEs.q]
      exact ih
/-- a row as it is drawn -/
def DRow (hs : List (Str × Nat)) (ns : List Str) (many : Int) (row : PyData) : Prop :=
  (∃ x ∈ ns, row = .tuple [.str x, .none]) ∨ ∃ h ∈ hs, ∃ ps : List Int, ps.length = h.2 ∧ (∀ p ∈ ps, 0 ≤ p ∧ p < many) ∧ row = .tuple [.str h.1, .tuple (ps.map .int)]
def headD (hs : List (Str × Nat)) : List PyData := hs.map fun h => .tuple [.str h.1, .int h.2]
theorem shaped_strs : ∀ ns : List Str, (∀ x ∈ ns, PyData.strOk x = true) → SeqAt.shaped (.list (ns.map .str)) = true := fun ns h => by
  have key : PyData.canLayAll0 (ns.map .str) = true ∧ PyData.depthAll (ns.map PyData.str) = 0 := by
    induction ns with
    | nil => exact ⟨rfl, rfl⟩
    | cons x ns ih =>
      obtain ⟨a, b⟩ := ih fun c hc => h c (List.mem_cons_of_mem _ hc)
      rw [List.map_cons]
      refine ⟨?_, ?_⟩
      · show (PyData.canLay0 (.str x) && PyData.canLayAll0 _) = true
        rw [a]
        have := h x List.mem_cons_self
        unfold PyData.canLay0
        simp [this]
      · show max _ (PyData.depthAll _) = 0
        rw [b]; rfl
  unfold SeqAt.shaped
  have e1 : PyData.canLay0 (.list (ns.map .str)) = true := by
    unfold PyData.canLay0; exact key.1
  have e2 : PyData.depth (.list (ns.map PyData.str)) ≤ 64 := by
    unfold PyData.depth; omega
  rw [e1, decide_eq_true e2]; rfl
theorem ne_names {ns : List Str} (h : ∀ x ∈ ns, PyData.strOk x = true) : BOp.sem .ne (.list (ns.map .str)) (.list []) = some (.d (.bool (!ns.isEmpty))) := by
  rw [ne_nil (shaped_strs ns h)]
  cases ns <;> rfl
theorem rng_len (n : Nat) : (rangeD 0 (n : Int)).length = n := by
  unfold rangeD
  simp
theorem b_tup_ints (ys : List Int) : Bi.sem .tuple [.ol (ys.map .int)] = some (.d (.tuple (ys.map .int))) := rfl
theorem rng_small {j : Nat} (h : j ≤ 1000000) {e : Env} : rngR (.w (.d (.int (j : Int))), e) = .ok (([], rangeD 0 (j : Int)), e) := by
  rw [rngR_ap, decide_eq_true (show (j : Int).natAbs < RG by show (j : Int).natAbs < 4611686018427387904; omega)]
  rfl
/-- one row is drawn -/
theorem drawn_row (cal : Str → Call) (ht : TakeOk cal) (ho : OneOk cal) (cells : List Int) (many num : Int) (hm : 0 < many) (hm2 : many < 1073741824) (hs : List (Str × Nat)) (ns : List Str) (hne : hs ≠ []) (hh : ∀ h ∈ hs, h.2 ≤ 4) (hl1 : hs.length ≤ 100) (hl2 : ns.length ≤ 100) (hns : ∀ x ∈ ns, PyData.strOk x = true)
    (s2 s3 x8 x9 x10 : Option W) (rows : List PyData) (a v : Int) (h0 : 0 ≤ a) (h1 : a + 20 ≤ 1000000) (hv : 0 ≤ v) (hr : rows.length ≤ 1000) :
    ∃ (row : PyData) (a' v' : Int) (x8' x9' x10' : Option W), DRow hs ns many row ∧ a ≤ a' ∧ a' ≤ a + 20 ∧ 0 ≤ v' ∧
      drawnB.den cal (okF [false, false, false, false]) [some (penW cells a v), some (.d (.int many)), s2, s3, some (.ol (headD hs)), some (.ol (ns.map .str)), some (.ol rows), some (.d (.int num)), x8, x9, x10, none, none, none] =
        .ok (.nx, [some (penW cells a' v'), some (.d (.int many)), s2, s3, some (.ol (headD hs)), some (.ol (ns.map .str)), some (.ol (rows ++ [row])), some (.d (.int num)), x8', x9', x10', none, none, none]) := by
  have hz : rows.length < SZ := by
    show rows.length < 16777216
    omega
  have h2 : (2 : Nat) ≤ SZ := by decide
  have en := ne_names hns
  -- the second road: a head and its parts
  have road : ∀ a v : Int, 0 ≤ a → a + 19 ≤ 1000000 → 0 ≤ v → ∃ (row : PyData) (a' v' : Int) (x8' x9' x10' : Option W), DRow hs ns many row ∧ a ≤ a' ∧ a' ≤ a + 19 ∧ 0 ≤ v' ∧
      drawnElse.den cal (okF [false, false, false, false]) [some (penW cells a v), some (.d (.int many)), s2, s3, some (.ol (headD hs)), some (.ol (ns.map .str)), some (.ol rows), some (.d (.int num)), x8, x9, x10, none, none, none] =
        .ok (.nx, [some (penW cells a' v'), some (.d (.int many)), s2, s3, some (.ol (headD hs)), some (.ol (ns.map .str)), some (.ol (rows ++ [row])), some (.d (.int num)), x8', x9', x10', none, none, none]) := by
    intro a v h0 h1 hv
    obtain ⟨y, a1, v1, hy, p1, p2, p3, e1⟩ := ho cells a v (headD hs) (.ol (headD hs)) (.inr (.inl rfl)) h0 (by omega) hv (by simpa [headD] using hne) (by simp [headD]; omega)
    obtain ⟨h, hmem, rfl⟩ := List.mem_map.mp hy
    have hsz := hh h hmem
    have hrl := rng_len h.2
    obtain ⟨ys, a2, v2, l2, hy2, q1, q2, q3, e2⟩ := near_loop cal ht cells many num hm s2 s3 (some (.ol (headD hs))) (some (.ol (ns.map .str))) (some (.ol rows)) (some (.d (.str h.1))) (some (.d (.int h.2))) x10 (rangeD 0 h.2) [] a1 v1 (by omega) (by omega) p3 (by simp; omega)
    obtain ⟨zs, a3, v3, l3, hy3, u1, u2, u3, e3⟩ := near2_loop cal ht ho cells many hm hm2 s2 s3 (some (.ol (headD hs))) (some (.ol (ns.map .str))) (some (.ol rows)) (some (.d (.int num))) (some (.d (.str h.1))) (some (.d (.int h.2))) (some (.d (.list (ys.map .int)))) ys [] a2 v2 hy2 (by omega) (by omega) q3 (by simp; omega)
    refine ⟨.tuple [.str h.1, .tuple (zs.map .int)], a3, v3, some (.d (.str h.1)), some (.d (.int h.2)), some (.ol (zs.map .int)), .inr ⟨h, hmem, zs, by omega, hy3, rfl⟩, by omega, by omega, u3, ?_⟩
    simp only [List.nil_append] at e2 e3
    have g1 : ∀ e : Env, rngR (.w (.d (.int (h.2 : Int))), e) = .ok (([], rangeD 0 (h.2 : Int)), e) := fun e => rng_small (by omega)
    have t1 : MSt.den cal (okF [false, false, false, false]) (.asg (.tup [(.name 8), (.name 9)]) (.cal "_law_one" (.cons (.var 0) (.cons (.var 4) .nil)))) [some (penW cells a v), some (.d (.int many)), s2, s3, some (.ol (headD hs)), some (.ol (ns.map .str)), some (.ol rows), some (.d (.int num)), x8, x9, x10, none, none, none] =
        .ok (.nx, [some (penW cells a1 v1), some (.d (.int many)), s2, s3, some (.ol (headD hs)), some (.ol (ns.map .str)), some (.ol rows), some (.d (.int num)), some (.d (.str h.1)), some (.d (.int h.2)), x10, none, none, none]) := by
      simp [e1, MEs.q, ME.q]
    have t2 : MSt.den cal (okF [false, false, false, false]) (.set 10 (.comp [11, 12] (.name 12) (.rng1 (.var 9)) .yes nearE)) [some (penW cells a1 v1), some (.d (.int many)), s2, s3, some (.ol (headD hs)), some (.ol (ns.map .str)), some (.ol rows), some (.d (.int num)), some (.d (.str h.1)), some (.d (.int h.2)), x10, none, none, none] =
        .ok (.nx, [some (penW cells a2 v2), some (.d (.int many)), s2, s3, some (.ol (headD hs)), some (.ol (ns.map .str)), some (.ol rows), some (.d (.int num)), some (.d (.str h.1)), some (.d (.int h.2)), some (.ol (ys.map .int)), none, none, none]) := by
      simp [g1, freeSlot, wipeE, -rngR_ap]
      rw [e2]
      simp [backE]
    have t3 : MSt.den cal (okF [false, false, false, false]) (.set 10 (.comp [11, 13] (.name 13) (.seq (.var 10)) .yes near2E)) [some (penW cells a2 v2), some (.d (.int many)), s2, s3, some (.ol (headD hs)), some (.ol (ns.map .str)), some (.ol rows), some (.d (.int num)), some (.d (.str h.1)), some (.d (.int h.2)), some (.ol (ys.map .int)), none, none, none] =
        .ok (.nx, [some (penW cells a3 v3), some (.d (.int many)), s2, s3, some (.ol (headD hs)), some (.ol (ns.map .str)), some (.ol rows), some (.d (.int num)), some (.d (.str h.1)), some (.d (.int h.2)), some (.ol (zs.map .int)), none, none, none]) := by
      simp [freeSlot, wipeE]
      rw [e3]
      simp [backE]
    have t4 : MSt.den cal (okF [false, false, false, false]) (.expr (.app (.var 6) (.tup (.cons (.var 8) (.cons (.bi .tuple (.cons (.var 10) .nil)) .nil))))) [some (penW cells a3 v3), some (.d (.int many)), s2, s3, some (.ol (headD hs)), some (.ol (ns.map .str)), some (.ol rows), some (.d (.int num)), some (.d (.str h.1)), some (.d (.int h.2)), some (.ol (zs.map .int)), none, none, none] =
        .ok (.nx, [some (penW cells a3 v3), some (.d (.int many)), s2, s3, some (.ol (headD hs)), some (.ol (ns.map .str)), some (.ol (rows ++ [.tuple [.str h.1, .tuple (zs.map .int)]])), some (.d (.int num)), some (.d (.str h.1)), some (.d (.int h.2)), some (.ol (zs.map .int)), none, none, none]) := by
      simp [b_tup_ints, MEs.q, ME.q, h2, hz]
    unfold drawnElse
    rw [sts_cons, t1, rb_ok, kSeq_nx, sts_cons, t2, rb_ok, kSeq_nx, sts_cons, t3, rb_ok, kSeq_nx, sts_cons, t4, rb_ok, kSeq_nx]
    rfl
  cases hnn : ns with
  | nil =>
    subst hnn
    obtain ⟨row, a', v', x8', x9', x10', d, p1, p2, p3, e⟩ := road a v h0 (by omega) hv
    refine ⟨row, a', v', x8', x9', x10', d, p1, by omega, p3, ?_⟩
    simp only [List.map_nil] at en e ⊢
    simp [drawnB, en, MEs.q, ME.q]
    rw [e]
    simp
  | cons n0 nr =>
    rw [hnn] at en
    rw [← hnn]
    obtain ⟨r, a1, v1, r0, r1, q1, q2, q3, e1⟩ := ht cells a v 4 h0 (by omega) hv (by decide) (by decide)
    rw [← hnn] at en
    have en' : BOp.sem .ne (.list (ns.map .str)) (.list []) = some (.d (.bool true)) := by
      rw [en, hnn]; rfl
    by_cases hz0 : r = 0
    · subst hz0
      obtain ⟨y, a2, v2, hy, p1, p2, p3, e2⟩ := ho cells a1 v1 (ns.map .str) (.ol (ns.map .str)) (.inr (.inl rfl)) (by omega) (by omega) q3 (by rw [hnn]; simp) (by simp; omega)
      obtain ⟨x, hx, rfl⟩ := List.mem_map.mp hy
      refine ⟨.tuple [.str x, .none], a2, v2, x8, x9, x10, .inl ⟨x, hx, rfl⟩, by omega, by omega, p3, ?_⟩
      simp [drawnB, en', e1, e2, MEs.q, ME.q, s_eqI, h2, hz]
    · obtain ⟨row, a', v', x8', x9', x10', d, p1, p2, p3, e⟩ := road a1 v1 (by omega) (by omega) q3
      refine ⟨row, a', v', x8', x9', x10', d, by omega, by omega, p3, ?_⟩
      have hz1 : (r == 0) = false := by simpa using hz0
      simp [drawnB, en', e1, MEs.q, ME.q, s_eqI, hz1]
      rw [e]
      simp
end Rf
end

section
set_option Elab.async false
set_option linter.all false
set_option maxRecDepth 10000
namespace Rf
open PySem
theorem drawn_loop (cal : Str → Call) (ht : TakeOk cal) (ho : OneOk cal) (cells : List Int) (many : Int) (hm : 0 < many) (hm2 : many < 1073741824) (hs : List (Str × Nat)) (ns : List Str) (hne : hs ≠ []) (hh : ∀ h ∈ hs, h.2 ≤ 4) (hl1 : hs.length ≤ 100) (hl2 : ns.length ≤ 100) (hns : ∀ x ∈ ns, PyData.strOk x = true)
    (s2 s3 : Option W) : ∀ (xs : List PyData) (rows : List PyData) (a v : Int) (x7 x8 x9 x10 : Option W), (∀ x ∈ xs, ∃ n : Int, x = .int n) → 0 ≤ a → a + 20 * xs.length ≤ 1000000 → 0 ≤ v → rows.length + xs.length ≤ 1000 →
    ∃ (rows' : List PyData) (a' v' : Int) (x7' x8' x9' x10' : Option W), rows'.length = rows.length + xs.length ∧ (∀ r ∈ rows', r ∈ rows ∨ DRow hs ns many r) ∧ a ≤ a' ∧ a' ≤ a + 20 * xs.length ∧ 0 ≤ v' ∧
      forL (Tg.put (okF [false, false, false, false]) (.name 7)) (drawnB.den cal (okF [false, false, false, false])) xs [some (penW cells a v), some (.d (.int many)), s2, s3, some (.ol (headD hs)), some (.ol (ns.map .str)), some (.ol rows), x7, x8, x9, x10, none, none, none] =
        .ok (.nx, [some (penW cells a' v'), some (.d (.int many)), s2, s3, some (.ol (headD hs)), some (.ol (ns.map .str)), some (.ol rows'), x7', x8', x9', x10', none, none, none])
  | [], rows, a, v, x7, x8, x9, x10, _, h0, h1, hv, hr => ⟨rows, a, v, x7, x8, x9, x10, by simp, fun r h => .inl h, by omega, by simp, hv, for_nil⟩
  | x :: xs, rows, a, v, x7, x8, x9, x10, hx, h0, h1, hv, hr => by
    simp only [List.length_cons] at h1 hr
    obtain ⟨num, rfl⟩ := hx x List.mem_cons_self
    obtain ⟨row, a1, v1, y8, y9, y10, d, p1, p2, p3, e⟩ := drawn_row cal ht ho cells many num hm hm2 hs ns hne hh hl1 hl2 hns s2 s3 x8 x9 x10 rows a v h0 (by omega) hv (by omega)
    obtain ⟨rows', a', v', z7, z8, z9, z10, l, hd, q1, q2, q3, ih⟩ := drawn_loop cal ht ho cells many hm hm2 hs ns hne hh hl1 hl2 hns s2 s3 xs (rows ++ [row]) a1 v1 (some (.d (.int num))) y8 y9 y10 (fun y hy => hx y (List.mem_cons_of_mem _ hy)) (by omega) (by omega) p3 (by simp; omega)
    refine ⟨rows', a', v', z7, z8, z9, z10, by rw [l]; simp; omega, fun r h => ?_, by omega, by simp only [List.length_cons]; omega, q3, ?_⟩
    · rcases hd r h with h | h
      · rcases List.mem_append.mp h with h | h
        · exact .inl h
        · exact .inr (by rw [List.mem_singleton.mp h]; exact d)
      · exact .inr h
    · have tp : Tg.put (okF [false, false, false, false]) (.name 7) (.int num) [some (penW cells a v), some (.d (.int many)), s2, s3, some (.ol (headD hs)), some (.ol (ns.map .str)), some (.ol rows), x7, x8, x9, x10, none, none, none] =
          .ok [some (penW cells a v), some (.d (.int many)), s2, s3, some (.ol (headD hs)), some (.ol (ns.map .str)), some (.ol rows), some (.d (.int num)), x8, x9, x10, none, none, none] := by
        simp
      rw [for_cons, tp, rb_ok, kFor_ap, e, rb_ok, kFor2_nx, ih]
end Rf
end

section
set_option Elab.async false
set_option linter.all false
set_option maxRecDepth 10000
namespace Rf
open PySem
def allHeads : List (Str × Nat) := [("f", 2), ("g", 1), ("a", 0), ("h", 3), ("b", 0), ("f", 1), ("k", 4)]
def allNames : List Str := ["x", "y", "a", "xa", "f"]
def DrawnOk (cal : Str → Call) : Prop := ∀ (cells : List Int) (a v : Int) (many s b : Nat), 0 ≤ a → a + 20 * many ≤ 1000000 → 0 ≤ v → 1 ≤ many → many ≤ 900 → 1 ≤ s → s ≤ 7 → b ≤ 5 →
  ∃ (rows : List PyData) (a' v' : Int), rows.length = many ∧ (∀ r ∈ rows, DRow (allHeads.take s) (allNames.take b) many r) ∧ a ≤ a' ∧ a' ≤ a + 20 * many ∧ 0 ≤ v' ∧
    cal "_law_drawn_web" [penW cells a v, .d (.int many), .d (.int s), .d (.int b)] = .ok (.w (.d (.tuple rows)), [some (penW cells a' v'), some (.d (.int many)), some (.d (.int s)), some (.d (.int b))])
theorem heads4 : ∀ h ∈ allHeads, h.2 ≤ 4 := by decide +kernel
theorem namesK : ∀ x ∈ allNames, PyData.strOk x = true := by decide +kernel
theorem drawn_ok (cal : Str → Call) (ht : TakeOk cal) (ho : OneOk cal) (cells : List Int) (a v : Int) (many s b : Nat) (h0 : 0 ≤ a) (h1 : a + 20 * many ≤ 1000000) (hv : 0 ≤ v) (hm : 1 ≤ many) (hm2 : many ≤ 900) (hs : 1 ≤ s) (hs2 : s ≤ 7) (hb : b ≤ 5) :
    ∃ (rows : List PyData) (a' v' : Int), rows.length = many ∧ (∀ r ∈ rows, DRow (allHeads.take s) (allNames.take b) many r) ∧ a ≤ a' ∧ a' ≤ a + 20 * many ∧ 0 ≤ v' ∧
      runDf ⟨4, 14, okF [false, false, false, false]⟩ (c_law_drawn_web.den cal (okF [false, false, false, false])) [penW cells a v, .d (.int many), .d (.int s), .d (.int b)] = .ok (.w (.d (.tuple rows)), [some (penW cells a' v'), some (.d (.int many)), some (.d (.int s)), some (.d (.int b))]) := by
  have c1 : cutG [PyData.tuple [.str "f", .int 2], .tuple [.str "g", .int 1], .tuple [.str "a", .int 0], .tuple [.str "h", .int 3], .tuple [.str "b", .int 0], .tuple [.str "f", .int 1], .tuple [.str "k", .int 4]] none (some (s : Int)) = headD (allHeads.take s) := by
    rw [cut_to]
    unfold headD
    rw [List.map_take]
    congr 1
    simp; omega
  have c2 : cutG [PyData.str "x", .str "y", .str "a", .str "xa", .str "f"] none (some (b : Int)) = (allNames.take b).map .str := by
    rw [cut_to, List.map_take]
    congr 1
    simp; omega
  obtain ⟨rows, a', v', x7, x8, x9, x10, l, hd, q1, q2, q3, e⟩ := drawn_loop cal ht ho cells many (by omega) (by omega) (allHeads.take s) (allNames.take b) (by
      have : 0 < (allHeads.take s).length := by simp [allHeads]; omega
      intro z; rw [z] at this; cases this) (fun h hh => heads4 h (List.mem_of_mem_take hh)) (by simp [allHeads]; omega) (by simp [allNames]; omega) (fun x hx => namesK x (List.mem_of_mem_take hx)) (some (.d (.int s))) (some (.d (.int b))) (rangeD 0 many) [] a v none none none none (fun x hx => by
      unfold rangeD at hx
      obtain ⟨i, _, rfl⟩ := List.mem_map.mp hx
      exact ⟨_, rfl⟩) h0 (by rw [rng_len]; exact h1) hv (by rw [rng_len]; simp; omega)
  rw [rng_len] at l q2
  refine ⟨rows, a', v', by simpa using l, fun r hr => (hd r hr).elim (fun z => by cases z) id, q1, q2, q3, ?_⟩
  have h7 : (7 : Nat) ≤ SZ := by decide
  have h5 : (5 : Nat) ≤ SZ := by decide
  have h2 : (2 : Nat) ≤ SZ := by decide
  have g1 : ∀ e : Env, rngR (.w (.d (.int (many : Int))), e) = .ok (([], rangeD 0 (many : Int)), e) := fun e => rng_small (by omega)
  simp [run_eq, c_law_drawn_web, List.replicate, c1, c2, h7, h5, h2, MEs.q, ME.q, MP.q, g1, -rngR_ap]
  simp only [List.map_take] at e
  rw [e]
  simp [MEs.q, ME.q]
end Rf
end

section
set_option Elab.async false
set_option linter.all false
set_option maxRecDepth 10000
/-! A value is bent. -/
namespace Rf
open PySem
def oddE : ME := (.lst (.cons (.dat .none) (.cons (.neg (.dat (.int (1)))) (.cons (.dat (.int (0))) (.cons (.dat (.int (1))) (.cons (.dat (.int (119))) (.cons (.dat (.int (120))) (.cons (.dat (.bool true)) (.cons (.dat (.bool false)) (.cons (.dat (.str "")) (.cons (.dat (.str "a")) (.cons (.dat (.str "A")) (.cons (.dat (.str "x")) (.cons (.dat (.str "abcdefgh")) (.cons (.dat (.str "abcdefghi")) (.cons (.dat (.str "a b")) (.cons (.dat (.str "a1")) (.cons (.tup .nil) (.cons (.lst .nil) .nil)))))))))))))))))))
def odd2E : ME := (.lst (.cons (.tup (.cons (.dat (.int (0))) .nil)) (.cons (.tup (.cons (.dat (.str "x")) (.cons (.dat .none) .nil))) (.cons (.tup (.cons (.dat (.str "a")) (.cons (.tup .nil) .nil))) (.cons (.tup (.cons (.dat (.str "a")) (.cons (.lst .nil) .nil))) (.cons (.lst (.cons (.dat (.int (0))) .nil)) (.cons (.tup (.cons (.dat (.str "f")) (.cons (.op .mul (.tup (.cons (.dat (.int (0))) .nil)) (.dat (.int (4)))) .nil))) (.cons (.tup (.cons (.dat (.str "f")) (.cons (.op .mul (.tup (.cons (.dat (.int (0))) .nil)) (.dat (.int (5)))) .nil))) .nil))))))))
def bentOdd : MSts := (.cons (.set 2 oddE)
  (.cons (.ret (.cal "_law_one" (.cons (.var 0) (.cons (.op .add (.var 2) odd2E) .nil))))
  .nil))
def bentRest : MSts := (.cons (.par [3, 4] (.cons (.cal "_law_take" (.cons (.var 0) (.cons (.bi .len (.cons (.var 1) .nil)) .nil))) (.cons (.cal "_law_take" (.cons (.var 0) (.cons (.dat (.int (9))) .nil))) .nil)))
  (.cons (.ife (.tst (.op .eq (.var 4) (.dat (.int (0))))) (.cons (.ret (.op .add (.sl (.var 1) .none (.some (.var 3))) (.sl (.var 1) (.some (.op .add (.var 3) (.dat (.int (1))))) .none)))
  .nil) .nil)
  (.cons (.ife (.tst (.op .eq (.var 4) (.dat (.int (1))))) (.cons (.ret (.op .add (.var 1) (.sl (.var 1) (.some (.var 3)) (.some (.op .add (.var 3) (.dat (.int (1))))))))
  .nil) .nil)
  (.cons (.ife (.tst (.op .eq (.var 4) (.dat (.int (2))))) (.cons (.ret (.bi .list (.cons (.var 1) .nil)))
  .nil) .nil)
  (.cons (.ret (.op .add (.op .add (.sl (.var 1) .none (.some (.var 3))) (.tup (.cons (.cal "_law_bent" (.cons (.var 0) (.cons (.ix (.var 1) (.var 3)) .nil))) .nil))) (.sl (.var 1) (.some (.op .add (.var 3) (.dat (.int (1))))) .none)))
  .nil)))))
def c_law_bent : MSts := (.cons (.ife (.alt (.inv (.tru (.isi .tuple (.var 1)))) (.alt (.tst (.op .eq (.var 1) (.tup .nil))) (.tst (.op .eq (.cal "_law_take" (.cons (.var 0) (.cons (.dat (.int (7))) .nil))) (.dat (.int (0))))))) bentOdd .nil)
  bentRest)
def oddD : List PyData := [.none, .int (-1), .int 0, .int 1, .int 119, .int 120, .bool true, .bool false, .str "", .str "a", .str "A", .str "x", .str "abcdefgh", .str "abcdefghi", .str "a b", .str "a1", .tuple [], .list []]
def odd2D : List PyData := [.tuple [.int 0], .tuple [.str "x", .none], .tuple [.str "a", .tuple []], .tuple [.str "a", .list []], .list [.int 0], .tuple [.str "f", .tuple [.int 0, .int 0, .int 0, .int 0]], .tuple [.str "f", .tuple [.int 0, .int 0, .int 0, .int 0, .int 0]]]
theorem odd_fine : ∀ d ∈ oddD ++ odd2D, fineB 2 60 d = true := by decide +kernel
theorem odd_den (cal : Str → Call) (e : Env) : oddE.den cal e = .ok (.w (.ol oddD), e) := rfl
theorem odd2_den (cal : Str → Call) (e : Env) : odd2E.den cal e = .ok (.w (.ol odd2D), e) := rfl
theorem bent_odd (cal : Str → Call) (ho : OneOk cal) (cells : List Int) (a v : Int) (d : PyData) (x2 x3 x4 : Option W) (h0 : 0 ≤ a) (h1 : a ≤ 1000000) (hv : 0 ≤ v) :
    ∃ (y : PyData) (a' v' : Int) (x2' : Option W), Fine 2 60 y ∧ a ≤ a' ∧ a' ≤ a + 1 ∧ 0 ≤ v' ∧
      bentOdd.den cal (okF [false, false]) [some (penW cells a v), some (.d d), x2, x3, x4] = .ok (.ret (.w (.d y)), [some (penW cells a' v'), some (.d d), x2', x3, x4]) := by
  obtain ⟨y, a', v', hy, p1, p2, p3, e⟩ := ho cells a v (oddD ++ odd2D) (.ol (oddD ++ odd2D)) (.inr (.inl rfl)) h0 h1 hv (by decide) (by decide)
  refine ⟨y, a', v', some (.ol oddD), fine_by (odd_fine y hy), p1, p2, p3, ?_⟩
  have ad : BOp.sem .add (.list oddD) (.list odd2D) = some (.ol (oddD ++ odd2D)) := add_lst (by decide)
  simp [bentOdd, odd_den, odd2_den, ad, e, MEs.q, ME.q]
end Rf
end

section
set_option Elab.async false
set_option linter.all false
set_option maxRecDepth 10000
namespace Rf
open PySem
theorem cut_from {α : Type} {xs : List α} {a : Nat} : cutG xs (some (a : Int)) none = xs.drop (min a xs.length) := by
  unfold cutG
  rw [HT.sIx_nat, HT.sIx_none]
  rw [List.take_of_length_le]
  simp
theorem add_tup {xs ys : List PyData} (h : xs.length + ys.length ≤ SZ) : BOp.sem .add (.tuple xs) (.tuple ys) = some (.d (.tuple (xs ++ ys))) := by
  show (if decide (xs.length + ys.length ≤ SZ) then _ else _) = _
  rw [decide_eq_true h]; rfl
theorem wt_split : ∀ (xs : List PyData) (i : Nat) (h : i < xs.length), PyData.weightAll (xs.take i) + (xs[i].weight + 1) + PyData.weightAll (xs.drop (i + 1)) = PyData.weightAll xs
  | x :: xs, 0, _ => by
    show 0 + (x.weight + 1) + PyData.weightAll xs = x.weight + 1 + PyData.weightAll xs
    omega
  | x :: xs, i + 1, h => by
    have h' : i < xs.length := by simpa using h
    have ih := wt_split xs i h'
    show x.weight + 1 + PyData.weightAll (xs.take i) + (xs[i].weight + 1) + PyData.weightAll (xs.drop (i + 1)) = x.weight + 1 + PyData.weightAll xs
    omega
theorem FineL.exact {D N : Nat} {xs : List PyData} (h : FineL D N xs) : FineL D (PyData.weightAll xs) xs := ⟨h.lay, h.dp, Nat.le_refl _, h.lv, h.sh⟩
theorem Fine.exact {D N : Nat} {x : PyData} (h : Fine D N x) : Fine D x.weight x := ⟨h.lay, h.dp, Nat.le_refl _, h.lv, h.sh⟩
/-- what `bent` may give: a datum, or a list of its own -/
def BentR (D : Nat) (cal : Str → Call) : Prop := ∀ (cells : List Int) (a v : Int) (d : PyData) (N : Nat), Fine D N d → N ≤ 100000 → 0 ≤ a → a + 5 * (D + 1) ≤ 1000000 → 0 ≤ v →
  ∃ (w : W) (y : PyData) (a' v' : Int), (w = .d y ∨ ∃ zs, w = .ol zs ∧ y = .list zs) ∧ Fine (D + 2) (2 * N + 60) y ∧ a ≤ a' ∧ a' ≤ a + 5 * (D + 1) ∧ 0 ≤ v' ∧ cal "_law_bent" [penW cells a v, .d d] = .ok (.w w, [some (penW cells a' v'), some (.d d)])
theorem bent_rest (D : Nat) (cal : Str → Call) (ht : TakeOk cal) (ih : BentR (D - 1) cal) (cells : List Int) (a v : Int) (xs : List PyData) (N : Nat) (hf : Fine D N (.tuple xs)) (hN : N ≤ 100000) (hx : xs ≠ []) (h0 : 0 ≤ a) (h1 : a + 2 + 5 * D ≤ 1000000) (hv : 0 ≤ v) (x2 x3 x4 : Option W) :
    ∃ (w : W) (y : PyData) (a' v' : Int) (x3' x4' : Option W), (w = .d y ∨ ∃ zs, w = .ol zs ∧ y = .list zs) ∧ Fine (D + 2) (2 * N + 60) y ∧ a ≤ a' ∧ a' ≤ a + 2 + 5 * D ∧ 0 ≤ v' ∧
      bentRest.den cal (okF [false, false]) [some (penW cells a v), some (.d (.tuple xs)), x2, x3, x4] = .ok (.ret (.w w), [some (penW cells a' v'), some (.d (.tuple xs)), x2, x3', x4']) := by
  obtain ⟨hl, hD⟩ := hf.untup
  have hlen := hl.len
  have hp : 0 < xs.length := by
    cases xs with
    | nil => exact absurd rfl hx
    | cons _ _ => simp
  have hsz : (200001 : Nat) ≤ SZ := by decide
  obtain ⟨r, a1, v1, r0, r1, p1, p2, p3, e1⟩ := ht cells a v xs.length h0 (by omega) hv (by omega) (by omega)
  obtain ⟨t, a2, v2, t0, t1, q1, q2, q3, e2⟩ := ht cells a1 v1 9 (by omega) (by omega) p3 (by decide) (by decide)
  obtain ⟨i, rfl⟩ : ∃ i : Nat, r = (i : Int) := ⟨r.toNat, by omega⟩
  have hi : i < xs.length := by omega
  have c1 : cutG xs none (some (i : Int)) = xs.take i := by rw [cut_to]; congr 1; omega
  have c2 : cutG xs (some ((i : Int) + 1)) none = xs.drop (i + 1) := by
    have := cut_from (xs := xs) (a := i + 1)
    rw [show ((i : Int) + 1) = ((i + 1 : Nat) : Int) by omega, this]; congr 1; omega
  have c3 : cutG xs (some (i : Int)) (some ((i : Int) + 1)) = (xs.drop i).take 1 := by
    have := cut_nat (xs := xs) (a := i) (b := i + 1)
    rw [show ((i : Int) + 1) = ((i + 1 : Nat) : Int) by omega, this]
    congr 1
    · omega
    · congr 1; omega
  have par : MSt.den cal (okF [false, false]) (.par [3, 4] (.cons (.cal "_law_take" (.cons (.var 0) (.cons (.bi .len (.cons (.var 1) .nil)) .nil))) (.cons (.cal "_law_take" (.cons (.var 0) (.cons (.dat (.int (9))) .nil))) .nil))) [some (penW cells a v), some (.d (.tuple xs)), x2, x3, x4] =
      .ok (.nx, [some (penW cells a2 v2), some (.d (.tuple xs)), x2, some (.d (.int i)), some (.d (.int t))]) := by
    simp [e1, e2, MEs.q, ME.q]
  have ltk := List.length_take_le i xs
  have ldr : (xs.drop (i + 1)).length ≤ xs.length := by rw [List.length_drop]; omega
  have la : ∀ ys : List PyData, FineL (D - 1) (2 * N + 60) ys → Fine (D + 2) (2 * N + 60) (.tuple ys) := fun ys h => h.tup.mono (by omega) (Nat.le_refl _)
  by_cases t00 : t = 0
  · subst t00
    refine ⟨.d (.tuple (xs.take i ++ xs.drop (i + 1))), _, a2, v2, some (.d (.int i)), some (.d (.int 0)), .inl rfl, la _ (((hl.take i).append (hl.drop (i + 1))).mono (Nat.le_refl _) (by omega)), by omega, by omega, q3, ?_⟩
    have ad : BOp.sem .add (.tuple (xs.take i)) (.tuple (xs.drop (i + 1))) = some (.d (.tuple (xs.take i ++ xs.drop (i + 1)))) := add_tup (by omega)
    unfold bentRest
    rw [sts_cons, par]
    simp [s_eqI, c1, c2, ad, MEs.q, ME.q, MP.q]
  · by_cases t11 : t = 1
    · subst t11
      have l1 : ((xs.drop i).take 1).length ≤ 1 := by rw [List.length_take]; omega
      refine ⟨.d (.tuple (xs ++ (xs.drop i).take 1)), _, a2, v2, some (.d (.int i)), some (.d (.int 1)), .inl rfl, la _ ((hl.append ((hl.drop i).take 1)).mono (Nat.le_refl _) (by omega)), by omega, by omega, q3, ?_⟩
      have ad : BOp.sem .add (.tuple xs) (.tuple ((xs.drop i).take 1)) = some (.d (.tuple (xs ++ (xs.drop i).take 1))) := add_tup (by omega)
      unfold bentRest
      rw [sts_cons, par]
      simp [s_eqI, c3, ad, MEs.q, ME.q, MP.q]
    · by_cases t22 : t = 2
      · subst t22
        refine ⟨.ol xs, .list xs, a2, v2, some (.d (.int i)), some (.d (.int 2)), .inr ⟨xs, rfl, rfl⟩, hl.lst.mono (by omega) (by omega), by omega, by omega, q3, ?_⟩
        unfold bentRest
        rw [sts_cons, par]
        simp [s_eqI, MEs.q, ME.q, MP.q]
      · have b0 : (t == 0) = false := by simpa using t00
        have b1 : (t == 1) = false := by simpa using t11
        have b2 : (t == 2) = false := by simpa using t22
        have fx := (hl.at xs[i] (List.getElem_mem _)).exact
        have sp := wt_split xs i hi
        have wt := hl.wt
        obtain ⟨w, y, a3, v3, hw, fy, u1, u2, u3, e3⟩ := ih cells a2 v2 xs[i] xs[i].weight fx (by omega) (by omega) (by omega) q3
        have fin : FineL (D + 1) (2 * N + 60) ((xs.take i ++ [y]) ++ xs.drop (i + 1)) := by
          have f1 := (hl.take i).exact.mono (D' := D + 1) (W' := PyData.weightAll (xs.take i)) (by omega) (Nat.le_refl _)
          have f2 := (hl.drop (i + 1)).exact.mono (D' := D + 1) (W' := PyData.weightAll (xs.drop (i + 1))) (by omega) (Nat.le_refl _)
          have f3 : FineL (D + 1) (2 * xs[i].weight + 60 + 1 + 0) [y] := .cons (fy.mono (by omega) (Nat.le_refl _)) .nil
          exact ((f1.append f3).append f2).mono (Nat.le_refl _) (by omega)
        refine ⟨.d (.tuple ((xs.take i ++ [y]) ++ xs.drop (i + 1))), _, a3, v3, some (.d (.int i)), some (.d (.int t)), .inl rfl, fin.tup.mono (by omega) (Nat.le_refl _), by omega, by omega, u3, ?_⟩
        have ad1 : BOp.sem .add (.tuple (xs.take i)) (.tuple [y]) = some (.d (.tuple (xs.take i ++ [y]))) := add_tup (by simp; omega)
        have ad2 : BOp.sem .add (.tuple (xs.take i ++ [y])) (.tuple (xs.drop (i + 1))) = some (.d (.tuple (xs.take i ++ [y] ++ xs.drop (i + 1)))) := add_tup (by simp; omega)
        have hat : L2.atI xs (i : Int) = some xs[i] := by
          have := at_nat (xs := xs) (i := (i : Int)) (by omega) (by omega)
          simpa using this
        have hz1 : (1 : Nat) ≤ SZ := by decide
        unfold bentRest
        rw [sts_cons, par]
        rcases hw with rfl | ⟨zs, rfl, rfl⟩
        · simp [s_eqI, b0, b1, b2, hat, c1, c2, e3, ad1, MEs.q, ME.q, MP.q, hz1]
          simp only [List.append_assoc, List.singleton_append] at ad2
          rw [ad2]
          simp
        · simp [s_eqI, b0, b1, b2, hat, c1, c2, e3, ad1, MEs.q, ME.q, MP.q, hz1]
          simp only [List.append_assoc, List.singleton_append] at ad2
          rw [ad2]
          simp
end Rf
end

section
set_option Elab.async false
set_option linter.all false
set_option maxRecDepth 10000
/-! Webs with their types; what is reached. -/
namespace Rf
open PySem
theorem natsD_get {ns : List Nat} {i : Nat} (h : i < ns.length) : L2.atI (natsD ns) (i : Int) = some (natD ns[i]) := by
  rw [at_nat (by omega) (by simpa using h)]
  simp [natsD]
abbrev Row := Str × Option (List Nat)
abbrev Web := List Row
def partsD : Option (List Nat) → PyData
  | none => .none
  | some ps => .tuple (natsD ps)
def rowD (r : Row) : PyData := .tuple [.str r.1, partsD r.2]
def rowsD (w : Web) : List PyData := w.map rowD
def webD (w : Web) : PyData := .tuple (rowsD w)
def rparts (r : Row) : List Nat := r.2.getD []
def parts (w : Web) (a : Nat) : List Nat := match w[a]? with
  | some r => rparts r
  | none => []
/-- each part is a row -/
def Closed (w : Web) : Prop := ∀ a, ∀ p ∈ parts w a, p < w.length
@[simp] theorem rowsD_len {w : Web} : (rowsD w).length = w.length := by simp [rowsD]
theorem rowsD_get {w : Web} {i : Nat} (h : i < w.length) : L2.atI (rowsD w) (i : Int) = some (rowD w[i]) := by
  rw [at_nat (by omega) (by simpa using h)]
  simp [rowsD]
theorem parts_at {w : Web} {i : Nat} (h : i < w.length) : parts w i = rparts w[i] := by
  unfold parts
  rw [List.getElem?_eq_getElem h]
/-! #### membership -/
theorem nats_shaped {ns : List Nat} : SeqAt.shaped (.list (natsD ns)) = true ∧ SeqAt.shaped (.tuple (natsD ns)) = true := by
  have key : PyData.canLayAll0 (natsD ns) = true ∧ PyData.depthAll (natsD ns) = 0 := by
    induction ns with
    | nil => exact ⟨rfl, rfl⟩
    | cons x ns ih =>
      refine ⟨?_, ?_⟩
      · show (PyData.canLay0 (natD x) && PyData.canLayAll0 (natsD ns)) = true
        rw [ih.1]; rfl
      · show max (PyData.depth (natD x)) (PyData.depthAll (natsD ns)) = 0
        rw [ih.2]; rfl
  unfold SeqAt.shaped
  have e1 : PyData.canLay0 (.list (natsD ns)) = true := by unfold PyData.canLay0; exact key.1
  have e2 : PyData.depth (.list (natsD ns)) ≤ 64 := by unfold PyData.depth; omega
  have e3 : PyData.canLay0 (.tuple (natsD ns)) = true := by unfold PyData.canLay0; exact key.1
  have e4 : PyData.depth (.tuple (natsD ns)) ≤ 64 := by unfold PyData.depth; omega
  rw [e1, decide_eq_true e2, e3, decide_eq_true e4]
  exact ⟨rfl, rfl⟩
theorem nat_shaped (n : Nat) : SeqAt.shaped (natD n) = true := rfl
theorem eqv_nat (a b : Nat) : PyData.eqv (natD a) (natD b) = decide (a = b) := by
  show PyData.eqv (.int a) (.int b) = _
  simp only [PyData.eqv]
  by_cases h : a = b
  · subst h; simp
  · rw [decide_eq_false h]
    simp; omega
theorem any_nat (a : Nat) (ns : List Nat) : ((natsD ns).any fun z => PyData.eqv z (natD a)) = decide (a ∈ ns) := by
  induction ns with
  | nil => rfl
  | cons b ns ih =>
    rw [natsD_cons, List.any_cons, ih, eqv_nat]
    by_cases h : b = a
    · subst h; simp
    · have h' : a ≠ b := fun e => h e.symm
      simp [h, h']
theorem inD_nats (a : Nat) (ns : List Nat) : inD (natD a) (.list (natsD ns)) = some (decide (a ∈ ns)) ∧ inD (natD a) (.tuple (natsD ns)) = some (decide (a ∈ ns)) := by
  refine ⟨?_, ?_⟩
  · show (if (SeqAt.shaped (natD a) && SeqAt.shaped (.list (natsD ns))) = true then some ((natsD ns).any fun z => PyData.eqv z (natD a)) else none) = _
    rw [nat_shaped, nats_shaped.1, any_nat]; rfl
  · show (if (SeqAt.shaped (natD a) && SeqAt.shaped (.tuple (natsD ns))) = true then some ((natsD ns).any fun z => PyData.eqv z (natD a)) else none) = _
    rw [nat_shaped, nats_shaped.2, any_nat]; rfl
theorem in_nats (a : Nat) (ns : List Nat) : BOp.sem .isin (natD a) (.list (natsD ns)) = some (.d (.bool (decide (a ∈ ns)))) := by
  show (inD (natD a) (.list (natsD ns))).map _ = _
  rw [(inD_nats a ns).1]; rfl
theorem notin_nats (a : Nat) (ns : List Nat) : BOp.sem .notin (natD a) (.list (natsD ns)) = some (.d (.bool (!decide (a ∈ ns)))) := by
  show (inD (natD a) (.list (natsD ns))).map _ = _
  rw [(inD_nats a ns).1]; rfl
/-! #### the parts of a row -/
def PartsOk (f : Str) (cal : Str → Call) : Prop := ∀ r : Row, cal f [.d (rowD r)] = .ok (.w (.d (.tuple (natsD (rparts r)))), [some (.d (rowD r))])
def cparts : MSts := (.cons (.ret (.ife (.tst (.op .is (.ix (.var 0) (.dat (.int (1)))) (.dat .none))) (.tup .nil) (.ix (.var 0) (.dat (.int (1))))))
  .nil)
theorem parts_ok (cal : Str → Call) (r : Row) : runDf ⟨1, 1, okF [false]⟩ (cparts.den cal (okF [false])) [.d (rowD r)] = .ok (.w (.d (.tuple (natsD (rparts r)))), [some (.d (rowD r))]) := by
  obtain ⟨x, o⟩ := r
  have z0 : (0 : Nat) ≤ SZ := Nat.zero_le _
  cases o with
  | none => simp [run_eq, cparts, rowD, partsD, rparts, isN, MEs.q, ME.q, z0]
  | some ps => simp [run_eq, cparts, rowD, partsD, rparts, isN, MEs.q, ME.q, z0]
/-! #### what is reached -/
def add1 (found : List Nat) (p : Nat) : List Nat := if p ∈ found then found else found ++ [p]
def addAll (found ps : List Nat) : List Nat := ps.foldl add1 found
def bfs (w : Web) : Nat → List Nat → Nat → List Nat
  | 0, found, _ => found
  | k + 1, found, at_ => match found[at_]? with
    | some a => bfs w k (addAll found (parts w a)) (at_ + 1)
    | none => found
def reach (w : Web) (a : Nat) : List Nat := bfs w w.length [a] 0
theorem add1_len (f : List Nat) (p : Nat) : (add1 f p).length ≤ f.length + 1 := by
  unfold add1; split <;> simp
theorem addAll_len : ∀ (ps f : List Nat), (addAll f ps).length ≤ f.length + ps.length
  | [], f => by simp [addAll]
  | p :: ps, f => by
    have := addAll_len ps (add1 f p)
    have h := add1_len f p
    show (addAll (add1 f p) ps).length ≤ _
    simp only [List.length_cons]; omega
theorem add1_mem {f : List Nat} {p x : Nat} : x ∈ add1 f p ↔ x ∈ f ∨ x = p := by
  unfold add1
  split
  · rename_i h
    exact ⟨.inl, fun h' => h'.elim id fun e => e ▸ h⟩
  · simp
theorem addAll_mem : ∀ {ps f : List Nat} {x : Nat}, x ∈ addAll f ps ↔ x ∈ f ∨ x ∈ ps
  | [], f, x => by simp [addAll]
  | p :: ps, f, x => by
    show x ∈ addAll (add1 f p) ps ↔ _
    rw [addAll_mem, add1_mem, List.mem_cons, or_assoc]
theorem add1_nodup {f : List Nat} {p : Nat} (h : f.Nodup) : (add1 f p).Nodup := by
  unfold add1
  split
  · exact h
  · rename_i hp
    refine List.nodup_append.mpr ⟨h, by simp, fun a ha b hb e => ?_⟩
    rw [List.mem_singleton] at hb
    subst hb; subst e; exact hp ha
theorem addAll_nodup : ∀ {ps f : List Nat}, f.Nodup → (addAll f ps).Nodup
  | [], _, h => h
  | p :: ps, f, h => addAll_nodup (ps := ps) (add1_nodup h)
theorem addAll_pre : ∀ (ps f : List Nat), ∃ t, addAll f ps = f ++ t
  | [], f => ⟨[], by simp [addAll]⟩
  | p :: ps, f => by
    obtain ⟨t, e⟩ := addAll_pre ps (add1 f p)
    show ∃ t, addAll (add1 f p) ps = f ++ t
    rw [e]
    unfold add1
    split
    · exact ⟨t, rfl⟩
    · exact ⟨p :: t, by simp⟩
theorem sub_len : ∀ (l D : List Nat), l.Nodup → (∀ x ∈ l, x ∈ D) → l.length ≤ D.length
  | [], _, _, _ => by simp
  | a :: l, D, hn, hs => by
    have hn' := List.nodup_cons.mp hn
    have ih := sub_len l (D.erase a) hn'.2 fun y hy => by
      refine (List.mem_erase_of_ne ?_).mpr (hs y (List.mem_cons_of_mem _ hy))
      rintro rfl
      exact hn'.1 hy
    have ha : a ∈ D := hs a List.mem_cons_self
    have e := List.length_erase_of_mem ha
    have := List.length_pos_of_mem ha
    simp only [List.length_cons]
    omega
theorem nodup_le (n : Nat) {l : List Nat} (h : l.Nodup) (hb : ∀ x ∈ l, x < n) : l.length ≤ n := by
  simpa using sub_len l (List.range n) h fun x hx => List.mem_range.mpr (hb x hx)
/-! #### the program's loop -/
def addB : MSts := (.cons (.ife (.tst (.op .notin (.var 4) (.var 2))) (.cons (.expr (.app (.var 2) (.var 4)))
  .nil) .nil)
  .nil)
theorem add_loop (cal : Str → Call) (s0 s1 s3 : Option W) : ∀ (ps found : List Nat) (x4 : Option W), found.length + ps.length ≤ 100000 →
    ∃ x4' : Option W, forL (Tg.put (okF [false, false]) (.name 4)) (addB.den cal (okF [false, false])) (natsD ps) [s0, s1, some (.ol (natsD found)), s3, x4] = .ok (.nx, [s0, s1, some (.ol (natsD (addAll found ps))), s3, x4'])
  | [], found, x4, _ => ⟨x4, for_nil⟩
  | p :: ps, found, x4, h => by
    simp only [List.length_cons] at h
    have hz : found.length < SZ := by
      have : (100000 : Nat) < SZ := by decide
      omega
    have e := notin_nats p found
    obtain ⟨x4', ih⟩ := add_loop cal s0 s1 s3 ps (add1 found p) (some (.d (natD p))) (by have := add1_len found p; omega)
    refine ⟨x4', ?_⟩
    rw [natsD_cons, for_cons]
    by_cases hp : p ∈ found
    · have e1 : add1 found p = found := if_pos hp
      rw [e1] at ih
      simp [addB, e, hp, MEs.q, ME.q]
      refine Eq.trans ih ?_
      simp [addAll, e1]
    · have e1 : add1 found p = found ++ [p] := if_neg hp
      rw [e1, natsD_append] at ih
      simp [addB, e, hp, hz, MEs.q, ME.q]
      refine Eq.trans ih ?_
      simp [addAll, e1]
end Rf
end

section
set_option Elab.async false
set_option linter.all false
set_option maxRecDepth 10000
/-! What is reached: the two programs, the meaning. -/
namespace Rf
open PySem
theorem bfs_nodup {w : Web} : ∀ (k : Nat) (f : List Nat) (i : Nat), f.Nodup → (bfs w k f i).Nodup
  | 0, f, i, h => h
  | k + 1, f, i, h => by
    unfold bfs
    split
    · exact bfs_nodup k _ _ (addAll_nodup h)
    · exact h
theorem bfs_lt {w : Web} (hc : Closed w) : ∀ (k : Nat) (f : List Nat) (i : Nat), (∀ x ∈ f, x < w.length) → ∀ x ∈ bfs w k f i, x < w.length
  | 0, f, i, h => h
  | k + 1, f, i, h => by
    unfold bfs
    split
    · refine bfs_lt hc k _ _ fun x hx => ?_
      rcases addAll_mem.mp hx with hx | hx
      · exact h x hx
      · exact hc _ x hx
    · exact h
theorem addAll_lt {w : Web} (hc : Closed w) {f : List Nat} {a : Nat} (h : ∀ x ∈ f, x < w.length) : ∀ x ∈ addAll f (parts w a), x < w.length := fun x hx => by
  rcases addAll_mem.mp hx with hx | hx
  · exact h x hx
  · exact hc _ x hx
def PLen (w : Web) : Prop := ∀ a, (parts w a).length ≤ 1000
/-- the loop of find_reached -/
def reachB : MSts := (.cons (.loop (.name 4) (.seq (.cal "parts_of" (.cons (.ix (.var 0) (.ix (.var 2) (.var 3))) .nil))) addB)
  (.cons (.set 3 (.op .add (.var 3) (.dat (.int (1)))))
  .nil))
def cfind_reached : MSts := (.cons (.par [2, 3] (.cons (.lst (.cons (.var 1) .nil)) (.cons (.dat (.int (0))) .nil)))
  (.cons (.whl (.tst (.op .lt (.var 3) (.bi .len (.cons (.var 2) .nil)))) reachB 1000)
  (.cons (.ret (.var 2))
  .nil)))
theorem reach_while (cal : Str → Call) (hp : PartsOk "parts_of" cal) (w : Web) (hc : Closed w) (hl : PLen w) (hw : w.length ≤ 900) (s1 : Option W) : ∀ (k fuel : Nat) (f : List Nat) (i : Nat) (x4 : Option W), f.Nodup → (∀ x ∈ f, x < w.length) → i ≤ f.length → w.length ≤ i + k → k < fuel →
    ∃ (i' : Nat) (x4' : Option W), whileL (MT.den cal (.tst (.op .lt (.var 3) (.bi .len (.cons (.var 2) .nil))))) (reachB.den cal (okF [false, false])) fuel [some (.d (webD w)), s1, some (.ol (natsD f)), some (.d (natD i)), x4] =
      .ok (.nx, [some (.d (webD w)), s1, some (.ol (natsD (bfs w k f i))), some (.d (natD i')), x4'])
  | k, 0, f, i, x4, _, _, _, _, h => absurd h (Nat.not_lt_zero _)
  | 0, fuel + 1, f, i, x4, hn, hb, hi, hk, _ => by
    have e : i = f.length := by have := nodup_le _ hn hb; omega
    have hlt : ¬ ((i : Int) < (f.length : Int)) := by omega
    refine ⟨i, x4, ?_⟩
    rw [whl_s]
    simp [natD, hlt, MEs.q, ME.q, bfs]
  | k + 1, fuel + 1, f, i, x4, hn, hb, hi, hk, hf => by
    rw [whl_s]
    by_cases h : i < f.length
    · have hlt : ((i : Int) < (f.length : Int)) := by omega
      have hfi : f[i] < w.length := hb _ (List.getElem_mem _)
      have e1 := natsD_get h
      have e2 := rowsD_get hfi
      have e3 := hp w[f[i]]
      have e4 : f[i]? = some f[i] := List.getElem?_eq_getElem h
      have hflen := nodup_le _ hn hb
      have hpl := hl f[i]
      rw [parts_at hfi] at hpl
      obtain ⟨y4, e5⟩ := add_loop cal (some (.d (webD w))) s1 (some (.d (natD i))) (rparts w[f[i]]) f x4 (by omega)
      obtain ⟨i', x4', ih⟩ := reach_while cal hp w hc hl hw s1 k fuel (addAll f (parts w f[i])) (i + 1) y4 (addAll_nodup hn) (addAll_lt hc hb) (by
        obtain ⟨t, e⟩ := addAll_pre (parts w f[i]) f
        rw [e, List.length_append]; omega) (by omega) (by omega)
      refine ⟨i', x4', ?_⟩
      have eb : bfs w (k + 1) f i = bfs w k (addAll f (parts w f[i])) (i + 1) := by
        show (match f[i]? with | some a => _ | none => _) = _
        rw [e4]
      have e6 : BOp.sem .add (natD i) (.int 1) = some (.d (natD (i + 1))) := rfl
      have hcond : MT.den cal (.tst (.op .lt (.var 3) (.bi .len (.cons (.var 2) .nil)))) [some (.d (webD w)), s1, some (.ol (natsD f)), some (.d (natD i)), x4] = .ok (true, [some (.d (webD w)), s1, some (.ol (natsD f)), some (.d (natD i)), x4]) := by
        simp [natD, hlt, MEs.q, ME.q]
      have hbody : reachB.den cal (okF [false, false]) [some (.d (webD w)), s1, some (.ol (natsD f)), some (.d (natD i)), x4] = .ok (.nx, [some (.d (webD w)), s1, some (.ol (natsD (addAll f (rparts w[f[i]])))), some (.d (natD (i + 1))), y4]) := by
        unfold webD at e5 ⊢
        have e1' : L2.atI (natsD f) (i : Int) = some (natD f[i]) := e1
        have e2' : L2.atI (rowsD w) ((f[i] : Nat) : Int) = some (rowD w[f[i]]) := e2
        have d1 : dIx (.ol (natsD f)) (natD i) = some (.d (natD f[i])) := by show (L2.atI (natsD f) (i : Int)).map W.d = _; rw [e1']; rfl
        have d2 : dIx (.d (.tuple (rowsD w))) (natD f[i]) = some (.d (rowD w[f[i]])) := by show (L2.atI (rowsD w) ((f[i] : Nat) : Int)).map W.d = _; rw [e2']; rfl
        simp [reachB, d1, d2, e3, MEs.q, ME.q]
        rw [e5]
        simp [e6, MEs.q, ME.q]
      rw [hcond, rb_ok, kWhl2_ap, if_pos rfl, hbody, rb_ok, kWhl3_nx, ← parts_at hfi, ih, eb]
    · have e4 : f[i]? = none := List.getElem?_eq_none (by omega)
      have hlt : ¬ ((i : Int) < (f.length : Int)) := by omega
      refine ⟨i, x4, ?_⟩
      have eb : bfs w (k + 1) f i = f := by
        show (match f[i]? with | some a => _ | none => _) = _
        rw [e4]
      rw [eb]
      simp [natD, hlt, MEs.q, ME.q]
def ReachOk (f : Str) (cal : Str → Call) : Prop := ∀ (w : Web) (a : Nat), Closed w → PLen w → w.length ≤ 900 → a < w.length → cal f [.d (webD w), .d (natD a)] = .ok (.w (.ol (natsD (reach w a))), [some (.d (webD w)), some (.d (natD a))])
theorem find_reached_ok (cal : Str → Call) (hp : PartsOk "parts_of" cal) (w : Web) (a : Nat) (hc : Closed w) (hl : PLen w) (hw : w.length ≤ 900) (ha : a < w.length) :
    runDf ⟨2, 5, okF [false, false]⟩ (cfind_reached.den cal (okF [false, false])) [.d (webD w), .d (natD a)] = .ok (.w (.ol (natsD (reach w a))), [some (.d (webD w)), some (.d (natD a))]) := by
  obtain ⟨i', x4', e⟩ := reach_while cal hp w hc hl hw (some (.d (natD a))) w.length 1000 [a] 0 none (by simp) (by simpa using ha) (by simp) (by omega) (by omega)
  have z1 : (1 : Nat) ≤ SZ := by decide
  have n0 : natD 0 = .int 0 := rfl
  rw [n0] at e
  simp [run_eq, cfind_reached, List.replicate, z1, MEs.q, ME.q]
  simp at e
  rw [e]
  simp [reach]
/-! #### the law's loop -/
def lreachB : MSts := (.cons (.ife (.tst (.op .lt (.var 3) (.bi .len (.cons (.var 2) .nil)))) (.cons (.loop (.name 4) (.seq (.cal "_law_parts_of" (.cons (.ix (.var 0) (.ix (.var 2) (.var 3))) .nil))) addB)
  .nil) .nil)
  .nil)
def c_law_reach : MSts := (.cons (.set 2 (.lst (.cons (.var 1) .nil)))
  (.cons (.loop (.name 3) (.rng1 (.bi .len (.cons (.var 0) .nil))) lreachB)
  (.cons (.ret (.var 2))
  .nil)))
theorem bfs_end {w : Web} {f : List Nat} {i : Nat} (h : f.length ≤ i) : ∀ k, bfs w k f i = f
  | 0 => rfl
  | k + 1 => by
    show (match f[i]? with | some a => _ | none => _) = _
    rw [List.getElem?_eq_none h]
theorem lreach_loop (cal : Str → Call) (hp : PartsOk "_law_parts_of" cal) (w : Web) (hc : Closed w) (hl : PLen w) (hw : w.length ≤ 900) (s1 : Option W) : ∀ (k : Nat) (f : List Nat) (i : Nat) (x3 x4 : Option W), f.Nodup → (∀ x ∈ f, x < w.length) →
    ∃ (x3' x4' : Option W), forL (Tg.put (okF [false, false]) (.name 3)) (lreachB.den cal (okF [false, false])) (natsD (List.range' i k)) [some (.d (webD w)), s1, some (.ol (natsD f)), x3, x4] =
      .ok (.nx, [some (.d (webD w)), s1, some (.ol (natsD (bfs w k f i))), x3', x4'])
  | 0, f, i, x3, x4, _, _ => ⟨x3, x4, for_nil⟩
  | k + 1, f, i, x3, x4, hn, hb => by
    rw [List.range'_succ, natsD_cons, for_cons]
    by_cases h : i < f.length
    · have hlt : ((i : Int) < (f.length : Int)) := by omega
      have hfi : f[i] < w.length := hb _ (List.getElem_mem _)
      have e1 := natsD_get h
      have e2 := rowsD_get hfi
      have e3 := hp w[f[i]]
      have e4 : f[i]? = some f[i] := List.getElem?_eq_getElem h
      have hflen := nodup_le _ hn hb
      have hpl := hl f[i]
      rw [parts_at hfi] at hpl
      obtain ⟨y4, e5⟩ := add_loop cal (some (.d (webD w))) s1 (some (.d (natD i))) (rparts w[f[i]]) f x4 (by omega)
      obtain ⟨x3', x4', ih⟩ := lreach_loop cal hp w hc hl hw s1 k (addAll f (parts w f[i])) (i + 1) (some (.d (natD i))) y4 (addAll_nodup hn) (addAll_lt hc hb)
      refine ⟨x3', x4', ?_⟩
      have eb : bfs w (k + 1) f i = bfs w k (addAll f (parts w f[i])) (i + 1) := by
        show (match f[i]? with | some a => _ | none => _) = _
        rw [e4]
      have hbody : lreachB.den cal (okF [false, false]) [some (.d (webD w)), s1, some (.ol (natsD f)), some (.d (natD i)), x4] = .ok (.nx, [some (.d (webD w)), s1, some (.ol (natsD (addAll f (rparts w[f[i]])))), some (.d (natD i)), y4]) := by
        unfold webD at e5 ⊢
        have d1 : dIx (.ol (natsD f)) (natD i) = some (.d (natD f[i])) := by show (L2.atI (natsD f) (i : Int)).map W.d = _; rw [e1]; rfl
        have d2 : dIx (.d (.tuple (rowsD w))) (natD f[i]) = some (.d (rowD w[f[i]])) := by show (L2.atI (rowsD w) ((f[i] : Nat) : Int)).map W.d = _; rw [e2]; rfl
        have d3 : BOp.sem .lt (natD i) (.int (f.length : Int)) = some (.d (.bool true)) := by show some (W.d (.bool (decide ((i : Int) < (f.length : Int))))) = _; rw [decide_eq_true hlt]
        simp [lreachB, d1, d2, d3, e3, MEs.q, ME.q]
        rw [e5]
        simp
      have tp : Tg.put (okF [false, false]) (.name 3) (natD i) [some (.d (webD w)), s1, some (.ol (natsD f)), x3, x4] = .ok [some (.d (webD w)), s1, some (.ol (natsD f)), some (.d (natD i)), x4] := by simp
      rw [tp, rb_ok, kFor_ap, hbody, rb_ok, kFor2_nx, ← parts_at hfi, ih, eb]
    · have hlt : ¬ ((i : Int) < (f.length : Int)) := by omega
      obtain ⟨x3', x4', ih⟩ := lreach_loop cal hp w hc hl hw s1 k f (i + 1) (some (.d (natD i))) x4 hn hb
      refine ⟨x3', x4', ?_⟩
      rw [bfs_end (by omega)] at ih ⊢
      have d3 : BOp.sem .lt (natD i) (.int (f.length : Int)) = some (.d (.bool false)) := by show some (W.d (.bool (decide ((i : Int) < (f.length : Int))))) = _; rw [decide_eq_false hlt]
      have hbody : lreachB.den cal (okF [false, false]) [some (.d (webD w)), s1, some (.ol (natsD f)), some (.d (natD i)), x4] = .ok (.nx, [some (.d (webD w)), s1, some (.ol (natsD f)), some (.d (natD i)), x4]) := by
        simp [lreachB, d3, MEs.q, ME.q]
      have tp : Tg.put (okF [false, false]) (.name 3) (natD i) [some (.d (webD w)), s1, some (.ol (natsD f)), x3, x4] = .ok [some (.d (webD w)), s1, some (.ol (natsD f)), some (.d (natD i)), x4] := by simp
      rw [tp, rb_ok, kFor_ap, hbody, rb_ok, kFor2_nx, ih]
theorem rangeD_nat (n : Nat) : rangeD 0 (n : Int) = natsD (List.range n) := by
  unfold rangeD natsD natD
  simp
theorem law_reach_ok (cal : Str → Call) (hp : PartsOk "_law_parts_of" cal) (w : Web) (a : Nat) (hc : Closed w) (hl : PLen w) (hw : w.length ≤ 900) (ha : a < w.length) :
    runDf ⟨2, 5, okF [false, false]⟩ (c_law_reach.den cal (okF [false, false])) [.d (webD w), .d (natD a)] = .ok (.w (.ol (natsD (reach w a))), [some (.d (webD w)), some (.d (natD a))]) := by
  obtain ⟨x3', x4', e⟩ := lreach_loop cal hp w hc hl hw (some (.d (natD a))) w.length [a] 0 none none (by simp) (by simpa using ha)
  have z1 : (1 : Nat) ≤ SZ := by decide
  have hr : ∀ e : Env, rngR (.w (.d (.int (w.length : Int))), e) = .ok (([], natsD (List.range w.length)), e) := fun e => by rw [← rangeD_nat]; exact rng_small (by omega)
  have e0 : List.range w.length = List.range' 0 w.length := List.range_eq_range'
  have bl : Bi.sem .len [.d (webD w)] = some (.d (.int (w.length : Int))) := by show some (W.d (.int ((rowsD w).length : Nat))) = _; rw [rowsD_len]
  simp [run_eq, c_law_reach, List.replicate, z1, hr, bl, -rngR_ap, MEs.q, ME.q]
  simp at e
  rw [e0, e]
  simp [reach]
end Rf
end

section
set_option Elab.async false
set_option linter.all false
set_option maxRecDepth 10000
/-! Graphs: what is reached, what goes round. -/
namespace Rf
open PySem
inductive Path (w : Web) : Nat → Nat → Prop
  | refl (a : Nat) : Path w a a
  | step {a b c : Nat} : Path w a b → c ∈ parts w b → Path w a c
theorem Path.trans {w : Web} {a b : Nat} (h : Path w a b) {c : Nat} (k : Path w b c) : Path w a c := by
  induction k with
  | refl => exact h
  | step _ e ih => exact ih.step e
theorem Path.edge {w : Web} {a b : Nat} (h : b ∈ parts w a) : Path w a b := (Path.refl a).step h
theorem Path.split {w : Web} {a c : Nat} (h : Path w a c) : a = c ∨ ∃ b, b ∈ parts w a ∧ Path w b c := by
  induction h with
  | refl => exact .inl rfl
  | @step b c p e ih =>
    rcases ih with rfl | ⟨d, hd, k⟩
    · exact .inr ⟨c, e, .refl c⟩
    · exact .inr ⟨d, hd, k.step e⟩
theorem Path.lt {w : Web} (hc : Closed w) {a b : Nat} (h : Path w a b) (ha : a < w.length) : b < w.length := by
  induction h with
  | refl => exact ha
  | step _ e _ => exact hc _ _ e
theorem bfs_sound {w : Web} {a : Nat} : ∀ (k : Nat) (f : List Nat) (i : Nat), (∀ x ∈ f, Path w a x) → ∀ x ∈ bfs w k f i, Path w a x
  | 0, f, i, h => h
  | k + 1, f, i, h => by
    unfold bfs
    split
    · rename_i b hb
      refine bfs_sound k _ _ fun x hx => ?_
      rcases addAll_mem.mp hx with hx | hx
      · exact h x hx
      · exact (h b (List.mem_of_getElem? hb)).step hx
    · exact h
theorem bfs_sub {w : Web} : ∀ (k : Nat) (f : List Nat) (i : Nat), ∀ x ∈ f, x ∈ bfs w k f i
  | 0, f, i, x, h => h
  | k + 1, f, i, x, h => by
    unfold bfs
    split
    · exact bfs_sub k _ _ x (addAll_mem.mpr (.inl h))
    · exact h
theorem bfs_closed {w : Web} (hc : Closed w) : ∀ (k : Nat) (f : List Nat) (i : Nat), f.Nodup → (∀ x ∈ f, x < w.length) → i ≤ f.length → w.length ≤ i + k → (∀ j, j < i → ∀ y, f[j]? = some y → ∀ p ∈ parts w y, p ∈ f) →
    ∀ x ∈ bfs w k f i, ∀ p ∈ parts w x, p ∈ bfs w k f i
  | 0, f, i, hn, hb, hi, hk, hd, x, hx, p, hp => by
    have hl := nodup_le _ hn hb
    obtain ⟨j, hj⟩ := List.mem_iff_getElem?.mp (show x ∈ f from hx)
    have hj' := (List.getElem?_eq_some_iff.mp hj).1
    exact hd j (by omega) x hj p hp
  | k + 1, f, i, hn, hb, hi, hk, hd, x, hx, p, hp => by
    unfold bfs at hx ⊢
    split at hx
    · rename_i b hbi
      obtain ⟨t, et⟩ := addAll_pre (parts w b) f
      have hil := (List.getElem?_eq_some_iff.mp hbi).1
      refine bfs_closed hc k _ (i + 1) (addAll_nodup hn) (addAll_lt hc hb) (by rw [et, List.length_append]; omega) (by omega) (fun j hj y hy q hq => ?_) x hx p hp
      have hjf : f[j]? = some y := by
        rw [et, List.getElem?_append_left (by omega)] at hy
        exact hy
      by_cases e : j = i
      · subst e
        rw [hjf] at hbi
        cases hbi
        exact addAll_mem.mpr (.inr hq)
      · exact addAll_mem.mpr (.inl (hd j (by omega) y hjf q hq))
    · rename_i hbi
      have hil : f.length ≤ i := by simpa using hbi
      obtain ⟨j, hj⟩ := List.mem_iff_getElem?.mp hx
      have hj' := (List.getElem?_eq_some_iff.mp hj).1
      exact hd j (by omega) x hj p hp
theorem mem_reach {w : Web} (hc : Closed w) {a b : Nat} (ha : a < w.length) : b ∈ reach w a ↔ Path w a b := by
  refine ⟨fun h => bfs_sound _ _ _ (fun x hx => ?_) b h, fun h => ?_⟩
  · rw [List.mem_singleton.mp hx]; exact .refl a
  · have cl := bfs_closed hc w.length [a] 0 (by simp) (by simpa using ha) (by simp) (by omega) (fun j hj => absurd hj (Nat.not_lt_zero _))
    induction h with
    | refl => exact bfs_sub _ _ _ a (by simp)
    | step _ e ih => exact cl _ (ih) _ e
/-! #### going round -/
def goesB (w : Web) (a : Nat) : Bool := (reach w a).any fun r => (parts w r).any fun p => decide (r ∈ reach w p)
/-- what has a part within -/
def stepL (w : Web) (l : List Nat) : List Nat := l.filter fun x => (parts w x).any fun p => decide (p ∈ l)
theorem filter_same {α : Type} {p : α → Bool} {l : List α} (h : (l.filter p).length = l.length) : l.filter p = l := by
  rw [List.filter_eq_self]
  exact List.length_filter_eq_length_iff.mp h
theorem pigeon {f : Nat → Nat} {l : List Nat} (h : ∀ i, f i ∈ l) : ∃ i j, i < j ∧ f i = f j := by
  refine Classical.byContradiction fun hn => ?_
  have inj : ∀ i j, i < j → f i ≠ f j := fun i j hij e => hn ⟨i, j, hij, e⟩
  have nd : ((List.range (l.length + 1)).map f).Nodup := by
    rw [List.Nodup, List.pairwise_map]
    refine List.Pairwise.imp ?_ (List.pairwise_lt_range (n := l.length + 1))
    intro a b hab
    exact inj a b hab
  have := sub_len _ l nd fun x hx => by
    obtain ⟨i, _, rfl⟩ := List.mem_map.mp hx
    exact h i
  simp at this
  omega
/-- a fixed list that is not empty goes round -/
theorem fixed_goes {w : Web} (hc : Closed w) {l : List Nat} (hl : ∀ x ∈ l, x < w.length) (hf : stepL w l = l) (hne : l ≠ []) : ∃ r ∈ l, ∃ p ∈ parts w r, Path w p r := by
  have nx : ∀ x, x ∈ l → ∃ p, p ∈ parts w x ∧ p ∈ l := fun x hx => by
    rw [← hf] at hx
    obtain ⟨_, h⟩ := List.mem_filter.mp hx
    obtain ⟨p, hp, h⟩ := List.any_eq_true.mp h
    exact ⟨p, hp, of_decide_eq_true h⟩
  obtain ⟨x0, hx0⟩ : ∃ x, x ∈ l := by
    cases l with
    | nil => exact absurd rfl hne
    | cons x _ => exact ⟨x, List.mem_cons_self⟩
  let g : {x // x ∈ l} → {x // x ∈ l} := fun x => ⟨Classical.choose (nx x.1 x.2), (Classical.choose_spec (nx x.1 x.2)).2⟩
  have hg : ∀ x, (g x).1 ∈ parts w x.1 := fun x => (Classical.choose_spec (nx x.1 x.2)).1
  let f : Nat → {x // x ∈ l} := fun n => Nat.rec ⟨x0, hx0⟩ (fun _ y => g y) n
  have fs : ∀ n, f (n + 1) = g (f n) := fun n => rfl
  have pth : ∀ d i, Path w (f i).1 (f (i + d)).1 := fun d => by
    induction d with
    | zero => exact fun i => .refl _
    | succ d ih => exact fun i => (ih i).step (by rw [← Nat.add_assoc, fs]; exact hg _)
  obtain ⟨i, j, hij, e⟩ := pigeon (f := fun n => (f n).1) (l := l) fun n => (f n).2
  refine ⟨(f i).1, (f i).2, (f (i + 1)).1, by rw [fs]; exact hg _, ?_⟩
  have := pth (j - (i + 1)) (i + 1)
  rw [show i + 1 + (j - (i + 1)) = j by omega] at this
  have e' : (f i).1 = (f j).1 := e
  rw [e']; exact this
/-- what goes round stays within -/
theorem goes_stays {w : Web} {r p : Nat} (hp : p ∈ parts w r) (h : Path w p r) : ∀ x, (Path w r x ∧ Path w x r) → ∃ y ∈ parts w x, Path w r y ∧ Path w y r := fun x hx => by
  rcases hx.2.split with e | ⟨b, hb, k⟩
  · subst e; exact ⟨p, hp, .edge hp, h⟩
  · exact ⟨b, hb, hx.1.step hb, k⟩
/-- left behind: nothing exactly if nothing goes round -/
theorem fixed_iff {w : Web} (hc : Closed w) {a : Nat} (ha : a < w.length) {l : List Nat} (hs : ∀ x ∈ l, x ∈ reach w a) (hf : stepL w l = l)
    (hk : ∀ C : Nat → Prop, (∀ x, C x → x ∈ reach w a) → (∀ x, C x → ∃ p ∈ parts w x, C p) → ∀ x, C x → x ∈ l) : l.isEmpty = !goesB w a := by
  have hlt : ∀ x ∈ l, x < w.length := fun x hx => ((mem_reach hc ha).mp (hs x hx)).lt hc ha
  cases hg : goesB w a with
  | true =>
    obtain ⟨r, hr, h⟩ := List.any_eq_true.mp hg
    obtain ⟨p, hp, h⟩ := List.any_eq_true.mp h
    have hrl := ((mem_reach hc ha).mp hr).lt hc ha
    have pr := (mem_reach hc (hc _ _ hp)).mp (of_decide_eq_true h)
    have hin := hk (fun x => Path w r x ∧ Path w x r) (fun x hx => (mem_reach hc ha).mpr (((mem_reach hc ha).mp hr).trans hx.1)) (fun x hx => goes_stays hp pr x hx) r ⟨.refl r, .refl r⟩
    cases l with
    | nil => cases hin
    | cons _ _ => rfl
  | false =>
    by_cases hne : l = []
    · subst hne; rfl
    · obtain ⟨r, hr, p, hp, h⟩ := fixed_goes hc hlt hf hne
      have : goesB w a = true := List.any_eq_true.mpr ⟨r, hs r hr, List.any_eq_true.mpr ⟨p, hp, decide_eq_true ((mem_reach hc (hc _ _ hp)).mpr h)⟩⟩
      rw [hg] at this; cases this
end Rf
end

section
set_option Elab.async false
set_option linter.all false
set_option maxRecDepth 10000
/-! Finite rows: the two programs. -/
namespace Rf
open PySem
/-! #### lists of truths -/
def bolsD (bs : List Bool) : List PyData := bs.map .bool
theorem b_any {α : Type} (f : α → Bool) (xs : List α) : Bi.sem .any [.ol (xs.map fun x => .bool (f x))] = some (.d (.bool (xs.any f))) := by
  have h := bools_map f xs
  show ((lstW (.ol (xs.map fun x => .bool (f x)))).bind boolsD).map _ = _
  show ((some (xs.map fun x => PyData.bool (f x))).bind boolsD).map (fun bs => W.d (.bool (bs.any id))) = _
  rw [Option.bind_some, h]
  show some (W.d (.bool ((xs.map f).any id))) = _
  rw [List.any_map]; rfl
theorem bols_shaped {bs : List Bool} : SeqAt.shaped (.list (bolsD bs)) = true := by
  have key : PyData.canLayAll0 (bolsD bs) = true ∧ PyData.depthAll (bolsD bs) = 0 := by
    induction bs with
    | nil => exact ⟨rfl, rfl⟩
    | cons x bs ih =>
      refine ⟨?_, ?_⟩
      · show (PyData.canLay0 (.bool x) && PyData.canLayAll0 (bolsD bs)) = true
        rw [ih.1]; rfl
      · show max (PyData.depth (.bool x)) (PyData.depthAll (bolsD bs)) = 0
        rw [ih.2]; rfl
  unfold SeqAt.shaped
  have e1 : PyData.canLay0 (.list (bolsD bs)) = true := by unfold PyData.canLay0; exact key.1
  have e2 : PyData.depth (.list (bolsD bs)) ≤ 64 := by unfold PyData.depth; omega
  rw [e1, decide_eq_true e2]; rfl
theorem true_in (bs : List Bool) : BOp.sem .isin (.bool true) (.list (bolsD bs)) = some (.d (.bool (bs.any id))) := by
  have h : inD (.bool true) (.list (bolsD bs)) = some (bs.any id) := by
    show (if (SeqAt.shaped (.bool true) && SeqAt.shaped (.list (bolsD bs))) = true then some ((bolsD bs).any fun z => PyData.eqv z (.bool true)) else none) = _
    rw [show SeqAt.shaped (.bool true) = true from rfl, bols_shaped]
    show some ((bolsD bs).any fun z => PyData.eqv z (.bool true)) = _
    congr 1
    unfold bolsD
    rw [List.any_map]
    congr 1
    funext b
    show PyData.eqv (.bool b) (.bool true) = b
    simp [PyData.eqv]
  show (inD (.bool true) (.list (bolsD bs))).map _ = _
  rw [h]; rfl
theorem nats_eq_nil (ns : List Nat) : BOp.sem .eq (.list (natsD ns)) (.list []) = some (.d (.bool ns.isEmpty)) := by
  have e : BOp.sem .eq (.list (natsD ns)) (.list []) = (if SeqAt.shaped (.list (natsD ns)) && SeqAt.shaped (.list []) then some (.d (.bool (PyData.eqv (.list (natsD ns)) (.list [])))) else none) := rfl
  rw [e, nats_shaped.1]
  cases ns <;> simp [PyData.eqv, PyData.eqvAll, SeqAt.shaped, PyData.canLay0, PyData.canLayAll0, PyData.depth, PyData.depthAll]
/-! #### is_finite_row -/
theorem fin_in (cal : Str → Call) (s0 s1 s3 s5 : Option W) (l : List Nat) : ∀ (ps : List Nat) (acc : List PyData), acc.length + ps.length ≤ 100000 →
    compL [4, 6] (Tg.put (fun _ => true) (.name 6)) (MT.den cal .yes) (ME.den cal (.op .isin (.var 6) (.var 2))) (natsD ps) [s0, s1, some (.d (.list (natsD l))), s3, none, s5, none] acc =
      .ok (acc ++ ps.map fun p => .bool (decide (p ∈ l)), [s0, s1, some (.d (.list (natsD l))), s3, none, s5, none])
  | [], acc, _ => by simp [comp_nil]
  | p :: ps, acc, h => by
    simp only [List.length_cons] at h
    have hz : acc.length < SZ := by
      have : (100000 : Nat) < SZ := by decide
      omega
    have e := in_nats p l
    have ih := fin_in cal s0 s1 s3 s5 l ps (acc ++ [.bool (decide (p ∈ l))]) (by simp; omega)
    rw [natsD_cons, comp_cons]
    simp [e, hz, freeSlot, wipeE, ih, ME.q, MEs.q]
def finC : MT := (.tru (.bi .any (.cons (.comp [4, 6] (.name 6) (.seq (.cal "parts_of" (.cons (.ix (.var 0) (.var 5)) .nil))) .yes (.op .isin (.var 6) (.var 2))) .nil)))
theorem fin_out (cal : Str → Call) (hp : PartsOk "parts_of" cal) (w : Web) (hl : PLen w) (s1 s3 : Option W) (l : List Nat) : ∀ (xs : List Nat) (acc : List Nat), (∀ x ∈ xs, x < w.length) → acc.length + xs.length ≤ 100000 →
    compL [4, 5] (Tg.put (fun _ => true) (.name 5)) (MT.den cal finC) (ME.den cal (.var 5)) (natsD xs) [some (.d (webD w)), s1, some (.d (.list (natsD l))), s3, none, none, none] (natsD acc) =
      .ok (natsD (acc ++ xs.filter fun x => (parts w x).any fun p => decide (p ∈ l)), [some (.d (webD w)), s1, some (.d (.list (natsD l))), s3, none, none, none])
  | [], acc, _, _ => by simp [comp_nil]
  | x :: xs, acc, hb, h => by
    simp only [List.length_cons] at h
    have hx := hb x List.mem_cons_self
    have hz : acc.length < SZ := by
      have : (100000 : Nat) < SZ := by decide
      omega
    have e3 := hp w[x]
    have hpl := hl x
    have d2 : dIx (.d (.tuple (rowsD w))) (natD x) = some (.d (rowD w[x])) := by show (L2.atI (rowsD w) (x : Int)).map W.d = _; rw [rowsD_get hx]; rfl
    have inner := fin_in cal (some (.d (webD w))) s1 s3 (some (.d (natD x))) l (rparts w[x]) [] (by rw [← parts_at hx]; simp; omega)
    have ba := b_any (fun p => decide (p ∈ l)) (rparts w[x])
    simp only [List.nil_append] at inner
    have cond : MT.den cal finC [some (.d (webD w)), s1, some (.d (.list (natsD l))), s3, none, some (.d (natD x)), none] = .ok ((parts w x).any fun p => decide (p ∈ l), [some (.d (webD w)), s1, some (.d (.list (natsD l))), s3, none, some (.d (natD x)), none]) := by
      rw [parts_at hx]
      unfold webD at inner ⊢
      simp [finC, d2, e3, MEs.q, ME.q, freeSlot, wipeE]
      rw [inner]
      simp [ba, backE, MEs.q, ME.q]
    have tp : Tg.put (fun _ => true) (.name 5) (natD x) [some (.d (webD w)), s1, some (.d (.list (natsD l))), s3, none, none, none] = .ok [some (.d (webD w)), s1, some (.d (.list (natsD l))), s3, none, some (.d (natD x)), none] := by simp
    rw [natsD_cons, comp_cons, tp, rb_ok, kCmp1_ap, cond, rb_ok, kCmp2_ap]
    by_cases hany : ((parts w x).any fun p => decide (p ∈ l)) = true
    · rw [if_pos hany]
      have ih := fin_out cal hp w hl s1 s3 l xs (acc ++ [x]) (fun y hy => hb y (List.mem_cons_of_mem _ hy)) (by simp; omega)
      have ef : ((x :: xs).filter fun x => (parts w x).any fun p => decide (p ∈ l)) = x :: xs.filter fun x => (parts w x).any fun p => decide (p ∈ l) := by rw [List.filter_cons, if_pos hany]
      rw [ef]
      rw [natsD_append] at ih
      simp only [List.append_assoc, List.singleton_append] at ih
      simp [hz, freeSlot, wipeE]
      exact ih
    · rw [if_neg hany]
      have ih := fin_out cal hp w hl s1 s3 l xs acc (fun y hy => hb y (List.mem_cons_of_mem _ hy)) (by omega)
      have ef : ((x :: xs).filter fun x => (parts w x).any fun p => decide (p ∈ l)) = xs.filter fun x => (parts w x).any fun p => decide (p ∈ l) := by rw [List.filter_cons, if_neg hany]
      rw [ef]
      simp [freeSlot, wipeE]
      exact ih
def finB : MSts := (.cons (.set 3 (.bi .len (.cons (.var 2) .nil)))
  (.cons (.set 2 (.comp [4, 5] (.name 5) (.seq (.var 2)) finC (.var 5)))
  .nil))
def finT : MT := (.tst (.op .ne (.var 3) (.bi .len (.cons (.var 2) .nil))))
def cis_finite_row : MSts := (.cons (.parT [2, 3] (.cons (.cal "find_reached" (.cons (.var 0) (.cons (.var 1) .nil))) (.cons (.neg (.dat (.int (1)))) .nil)))
  (.cons (.whl finT finB 1000)
  (.cons (.ret (.op .eq (.var 2) (.lst .nil)))
  .nil)))
theorem fin_while (cal : Str → Call) (hp : PartsOk "parts_of" cal) (w : Web) (hl : PLen w) (s1 : Option W) : ∀ (fuel : Nat) (l : List Nat) (m : Int), (∀ x ∈ l, x < w.length) → l.length ≤ 1000 → l.length + 2 ≤ fuel ∨ (m = l.length ∧ 1 ≤ fuel) → (m = l.length → stepL w l = l) →
    ∃ (l' : List Nat) (m' : Int), stepL w l' = l' ∧ (∀ x ∈ l', x ∈ l) ∧ (∀ C : Nat → Prop, (∀ x, C x → x ∈ l) → (∀ x, C x → ∃ p ∈ parts w x, C p) → ∀ x, C x → x ∈ l') ∧
      whileL (finT.den cal) (finB.den cal (okF [false, false])) fuel [some (.d (webD w)), s1, some (.ol (natsD l)), some (.d (.int m)), none, none, none] = .ok (.nx, [some (.d (webD w)), s1, some (.ol (natsD l')), some (.d (.int m')), none, none, none])
  | 0, l, m, hb, hs, hf, hm => by
    exfalso
    omega
  | fuel + 1, l, m, hb, hs, hf, hm => by
    rw [whl_s]
    by_cases e : m = l.length
    · refine ⟨l, m, hm e, fun x hx => hx, fun C hC _ x hx => hC x hx, ?_⟩
      have hcond : finT.den cal [some (.d (webD w)), s1, some (.ol (natsD l)), some (.d (.int m)), none, none, none] = .ok (false, [some (.d (webD w)), s1, some (.ol (natsD l)), some (.d (.int m)), none, none, none]) := by
        simp [finT, s_neI, e, MEs.q, ME.q]
      rw [hcond, rb_ok, kWhl2_ap, if_neg (by simp)]
    · have hcond : finT.den cal [some (.d (webD w)), s1, some (.ol (natsD l)), some (.d (.int m)), none, none, none] = .ok (true, [some (.d (webD w)), s1, some (.ol (natsD l)), some (.d (.int m)), none, none, none]) := by
        simp [finT, s_neI, e, MEs.q, ME.q]
      have out := fin_out cal hp w hl s1 (some (.d (.int l.length))) l l [] hb (by simp; omega)
      simp only [List.nil_append, natsD_nil] at out
      have hbody : finB.den cal (okF [false, false]) [some (.d (webD w)), s1, some (.ol (natsD l)), some (.d (.int m)), none, none, none] = .ok (.nx, [some (.d (webD w)), s1, some (.ol (natsD (stepL w l))), some (.d (.int l.length)), none, none, none]) := by
        simp [finB, freeSlot, wipeE, MEs.q, ME.q]
        rw [out]
        simp [backE, stepL]
      have sub : ∀ x ∈ stepL w l, x ∈ l := fun x hx => (List.mem_filter.mp hx).1
      have le : (stepL w l).length ≤ l.length := List.length_filter_le _ _
      obtain ⟨l', m', q1, q2, q3, q4⟩ := fin_while cal hp w hl s1 fuel (stepL w l) l.length (fun x hx => hb x (sub x hx)) (by omega) (by omega) (fun e2 => by
        have e3 : stepL w l = l := filter_same (by show (stepL w l).length = l.length; omega)
        rw [e3, e3])
      refine ⟨l', m', q1, fun x hx => sub x (q2 x hx), fun C hC hp' x hx => q3 C (fun y hy => ?_) hp' x hx, ?_⟩
      · obtain ⟨p, hp1, hp2⟩ := hp' y hy
        exact List.mem_filter.mpr ⟨hC y hy, List.any_eq_true.mpr ⟨p, hp1, decide_eq_true (hC p hp2)⟩⟩
      · rw [hcond, rb_ok, kWhl2_ap, if_pos rfl, hbody, rb_ok, kWhl3_nx, q4]
def FinOk (cal : Str → Call) : Prop := ∀ (w : Web) (a : Nat), Closed w → PLen w → w.length ≤ 900 → a < w.length → cal "is_finite_row" [.d (webD w), .d (natD a)] = .ok (.w (.d (.bool (!goesB w a))), [some (.d (webD w)), some (.d (natD a))])
theorem is_finite_row_ok (cal : Str → Call) (hp : PartsOk "parts_of" cal) (hr : ReachOk "find_reached" cal) (w : Web) (a : Nat) (hc : Closed w) (hl : PLen w) (hw : w.length ≤ 900) (ha : a < w.length) :
    runDf ⟨2, 7, okF [false, false]⟩ (cis_finite_row.den cal (okF [false, false])) [.d (webD w), .d (natD a)] = .ok (.w (.d (.bool (!goesB w a))), [some (.d (webD w)), some (.d (natD a))]) := by
  have er := hr w a hc hl hw ha
  have hb : ∀ x ∈ reach w a, x < w.length := fun x hx => ((mem_reach hc ha).mp hx).lt hc ha
  have hn : (reach w a).Nodup := bfs_nodup _ _ _ (by simp)
  have hlen := nodup_le _ hn hb
  obtain ⟨l', m', q1, q2, q3, q4⟩ := fin_while cal hp w hl (some (.d (natD a))) 1000 (reach w a) (-1) hb (by omega) (.inl (by omega)) (fun e => absurd e (by omega))
  have key := fixed_iff hc ha q2 q1 q3
  have z2 : (2 : Nat) ≤ SZ := by decide
  have z0 : (0 : Nat) ≤ SZ := by decide
  have e5 := nats_eq_nil l'
  rw [key] at e5
  simp [run_eq, cis_finite_row, List.replicate, er, z2, MEs.q, ME.q]
  rw [q4]
  simp [e5, z0, MEs.q, ME.q]
/-! #### the law's own -/
theorem goes_in (cal : Str → Call) (hp : PartsOk "_law_parts_of" cal) (hr : ReachOk "_law_reach" cal) (w : Web) (hc : Closed w) (hl : PLen w) (hw : w.length ≤ 900) (s1 : Option W) (r : Nat) : ∀ (ps : List Nat) (acc : List Bool), (∀ p ∈ ps, p < w.length) → acc.length + ps.length ≤ 100000 →
    compL [3, 4] (Tg.put (fun _ => true) (.name 4)) (MT.den cal .yes) (ME.den cal (.op .isin (.var 2) (.cal "_law_reach" (.cons (.var 0) (.cons (.var 4) .nil))))) (natsD ps) [some (.d (webD w)), s1, some (.d (natD r)), none, none] (bolsD acc) =
      .ok (bolsD (acc ++ ps.map fun p => decide (r ∈ reach w p)), [some (.d (webD w)), s1, some (.d (natD r)), none, none])
  | [], acc, _, _ => by simp [comp_nil]
  | p :: ps, acc, hb, h => by
    simp only [List.length_cons] at h
    have hx := hb p List.mem_cons_self
    have hz : (bolsD acc).length < SZ := by
      have : (100000 : Nat) < SZ := by decide
      simp [bolsD]; omega
    have e := hr w p hc hl hw hx
    have e2 := in_nats r (reach w p)
    have ih := goes_in cal hp hr w hc hl hw s1 r ps (acc ++ [decide (r ∈ reach w p)]) (fun y hy => hb y (List.mem_cons_of_mem _ hy)) (by simp; omega)
    have eb : bolsD (acc ++ [decide (r ∈ reach w p)]) = bolsD acc ++ [.bool (decide (r ∈ reach w p))] := by simp [bolsD]
    rw [eb] at ih
    simp only [List.append_assoc, List.singleton_append] at ih
    rw [natsD_cons, comp_cons]
    simp [e, e2, hz, freeSlot, wipeE, ME.q, MEs.q]
    exact ih
def goesB' : MSts := (.cons (.ife (.tst (.op .isin (.dat (.bool true)) (.comp [3, 4] (.name 4) (.seq (.cal "_law_parts_of" (.cons (.ix (.var 0) (.var 2)) .nil))) .yes (.op .isin (.var 2) (.cal "_law_reach" (.cons (.var 0) (.cons (.var 4) .nil))))))) (.cons (.ret (.dat (.bool true)))
  .nil) .nil)
  .nil)
def c_law_goes_round : MSts := (.cons (.loop (.name 2) (.seq (.cal "_law_reach" (.cons (.var 0) (.cons (.var 1) .nil)))) goesB')
  (.cons (.ret (.dat (.bool false)))
  .nil))
def flB (b : Bool) : Fl := if b then .ret (.w (.d (.bool true))) else .nx
theorem goes_loop (cal : Str → Call) (hp : PartsOk "_law_parts_of" cal) (hr : ReachOk "_law_reach" cal) (w : Web) (hc : Closed w) (hl : PLen w) (hw : w.length ≤ 900) (s1 : Option W) : ∀ (xs : List Nat) (x2 : Option W), (∀ x ∈ xs, x < w.length) →
    ∃ x2', forL (Tg.put (okF [false, false]) (.name 2)) (goesB'.den cal (okF [false, false])) (natsD xs) [some (.d (webD w)), s1, x2, none, none] =
      .ok (flB (xs.any fun r => (parts w r).any fun p => decide (r ∈ reach w p)), [some (.d (webD w)), s1, x2', none, none])
  | [], x2, _ => ⟨x2, by simp [for_nil, flB]⟩
  | r :: xs, x2, hb => by
    have hx := hb r List.mem_cons_self
    have e3 := hp w[r]
    have d2 : dIx (.d (.tuple (rowsD w))) (natD r) = some (.d (rowD w[r])) := by show (L2.atI (rowsD w) (r : Int)).map W.d = _; rw [rowsD_get hx]; rfl
    have hpl := hl r
    have inner := goes_in cal hp hr w hc hl hw s1 r (rparts w[r]) [] (fun p hp' => hc r p (by rw [parts_at hx]; exact hp')) (by rw [← parts_at hx]; simp; omega)
    have et := true_in ((rparts w[r]).map fun p => decide (r ∈ reach w p))
    have ea : ((rparts w[r]).map fun p => decide (r ∈ reach w p)).any id = (parts w r).any fun p => decide (r ∈ reach w p) := by rw [List.any_map, parts_at hx]; rfl
    rw [ea] at et
    simp only [List.nil_append] at inner
    have b0 : bolsD [] = [] := rfl
    rw [b0] at inner
    obtain ⟨x2', ih⟩ := goes_loop cal hp hr w hc hl hw s1 xs (some (.d (natD r))) (fun y hy => hb y (List.mem_cons_of_mem _ hy))
    have tp : Tg.put (okF [false, false]) (.name 2) (natD r) [some (.d (webD w)), s1, x2, none, none] = .ok [some (.d (webD w)), s1, some (.d (natD r)), none, none] := by simp
    have hbody : goesB'.den cal (okF [false, false]) [some (.d (webD w)), s1, some (.d (natD r)), none, none] = .ok (flB ((parts w r).any fun p => decide (r ∈ reach w p)), [some (.d (webD w)), s1, some (.d (natD r)), none, none]) := by
      unfold webD at inner ⊢
      cases hany : ((parts w r).any fun p => decide (r ∈ reach w p)) with
      | true =>
        rw [hany] at et
        simp [goesB', d2, e3, MEs.q, ME.q, freeSlot, wipeE]
        rw [inner]
        simp [backE, et, MEs.q, ME.q, flB]
      | false =>
        rw [hany] at et
        simp [goesB', d2, e3, MEs.q, ME.q, freeSlot, wipeE]
        rw [inner]
        simp [backE, et, MEs.q, ME.q, flB]
    rw [natsD_cons, for_cons, tp, rb_ok, kFor_ap, hbody, rb_ok, List.any_cons]
    cases hany : ((parts w r).any fun p => decide (r ∈ reach w p)) with
    | true => exact ⟨some (.d (natD r)), by simp [flB]⟩
    | false => exact ⟨x2', by simp [flB]; simpa [flB] using ih⟩
def GoesOk (cal : Str → Call) : Prop := ∀ (w : Web) (a : Nat), Closed w → PLen w → w.length ≤ 900 → a < w.length → cal "_law_goes_round" [.d (webD w), .d (natD a)] = .ok (.w (.d (.bool (goesB w a))), [some (.d (webD w)), some (.d (natD a))])
theorem goes_round_ok (cal : Str → Call) (hp : PartsOk "_law_parts_of" cal) (hr : ReachOk "_law_reach" cal) (w : Web) (a : Nat) (hc : Closed w) (hl : PLen w) (hw : w.length ≤ 900) (ha : a < w.length) :
    runDf ⟨2, 5, okF [false, false]⟩ (c_law_goes_round.den cal (okF [false, false])) [.d (webD w), .d (natD a)] = .ok (.w (.d (.bool (goesB w a))), [some (.d (webD w)), some (.d (natD a))]) := by
  have er := hr w a hc hl hw ha
  obtain ⟨x2', e⟩ := goes_loop cal hp hr w hc hl hw (some (.d (natD a))) (reach w a) none fun x hx => ((mem_reach hc ha).mp hx).lt hc ha
  have eg : ((reach w a).any fun r => (parts w r).any fun p => decide (r ∈ reach w p)) = goesB w a := rfl
  rw [eg] at e
  simp [run_eq, c_law_goes_round, List.replicate, er, MEs.q, ME.q]
  try simp at e
  rw [e]
  cases goesB w a <;> simp [flB]
end Rf
end

section
set_option Elab.async false
set_option linter.all false
set_option maxRecDepth 10000
/-! Good webs: what is drawn, what is asked of a web. -/
namespace Rf
open PySem
/-! #### bounded size (as in W12) -/
theorem head_fine' : ∀ h ∈ allHeads, fineB 0 20 (.str h.1) = true := by decide +kernel
theorem none_fine' : Fine 0 1 .none := fine_by (by decide +kernel)
theorem ints_fine' : ∀ ps : List Nat, (∀ p ∈ ps, p < 1024) → FineL 0 (12 * ps.length) (natsD ps)
  | [], _ => FineL.nil
  | p :: ps, h => by
    have hp := h p List.mem_cons_self
    have := FineL.cons (fine_int (i := (p : Int)) (by omega) (by omega)) (ints_fine' ps fun q hq => h q (List.mem_cons_of_mem _ hq))
    exact this.mono (Nat.le_refl _) (by simp only [List.length_cons]; omega)
def goodNames : List Str := ["f", "g", "a", "h", "b", "k", "x", "y", "xa"]
theorem good_fine : ∀ x ∈ goodNames, (fineB 0 20 (.str x) && nameB (.str x)) = true := by decide +kernel
def GRow (m : Nat) (r : Row) : Prop := r.1 ∈ goodNames ∧ (∀ p ∈ rparts r, p < m) ∧ (rparts r).length ≤ 4
def GRows (m : Nat) (w : Web) : Prop := ∀ r ∈ w, GRow m r
def GWeb (w : Web) : Prop := 1 ≤ w.length ∧ w.length ≤ 120 ∧ GRows w.length w
theorem GWeb.closed {w : Web} (h : GWeb w) : Closed w := fun a p hp => by
  unfold parts at hp
  split at hp
  · rename_i r hr
    exact (h.2.2 r (List.mem_of_getElem? hr)).2.1 p hp
  · cases hp
theorem GWeb.plen {w : Web} (h : GWeb w) : PLen w := fun a => by
  unfold parts
  split
  · rename_i r hr
    have := (h.2.2 r (List.mem_of_getElem? hr)).2.2
    omega
  · simp
theorem grow_fine {m : Nat} {r : Row} (hm : m ≤ 1024) (h : GRow m r) : Fine 2 80 (rowD r) := by
  obtain ⟨h1, h2, h3⟩ := h
  have gf := good_fine r.1 h1
  rw [Bool.and_eq_true] at gf
  have f := fine_by gf.1
  obtain ⟨x, o⟩ := r
  cases o with
  | none => exact (FineL.tup (FineL.cons f (FineL.cons none_fine' (FineL.nil (W := 0))))).mono (by omega) (by omega)
  | some ps =>
    have g := (ints_fine' ps (fun p q => by have z := h2 p q; omega)).tup
    have h3' : ps.length ≤ 4 := h3
    have f' : Fine 1 20 (.str x) := f.mono (by omega) (Nat.le_refl _)
    have g' : FineL 1 (12 * ps.length + 1 + 0) [.tuple (natsD ps)] := FineL.cons (D := 1) (W := 12 * ps.length) (W' := 0) g FineL.nil
    exact (FineL.tup (FineL.cons f' g')).mono (by omega) (by omega)
theorem grows_fine {m : Nat} (hm : m ≤ 1024) : ∀ w : Web, GRows m w → FineL 2 (81 * w.length) (rowsD w)
  | [], _ => FineL.nil
  | r :: w, h => by
    have := FineL.cons (grow_fine hm (h r List.mem_cons_self)) (grows_fine hm w fun q hq => h q (List.mem_cons_of_mem _ hq))
    exact this.mono (Nat.le_refl _) (by simp only [List.length_cons]; omega)
theorem GWeb.fine {w : Web} (h : GWeb w) : Fine 3 10000 (webD w) := (grows_fine (m := w.length) (by have := h.2.1; omega) w h.2.2).tup.mono (by omega) (by have := h.2.1; omega)
theorem below_nat {p m : Nat} (h : p < m) : belowB (m : Int) (natD p) = true := by
  show (decide ((0 : Int) ≤ (p : Int)) && decide ((p : Int) < (m : Int))) = true
  rw [decide_eq_true (by omega), decide_eq_true (by omega)]; rfl
theorem grow_rowB {m : Nat} {r : Row} (h : GRow m r) : rowB (m : Int) (rowD r) = true := by
  obtain ⟨h1, h2, h3⟩ := h
  have gf := good_fine r.1 h1
  rw [Bool.and_eq_true] at gf
  obtain ⟨x, o⟩ := r
  cases o with
  | none =>
    show (nameB (.str x) && true) = true
    rw [gf.2]; rfl
  | some ps =>
    have h3' : ps.length ≤ 4 := h3
    show (nameB (.str x) && (decide ((natsD ps).length ≤ 4) && allB m (natsD ps))) = true
    rw [gf.2, natsD_len, decide_eq_true h3']
    show allB m (natsD ps) = true
    unfold allB
    rw [List.all_eq_true]
    intro d hd
    obtain ⟨p, hp, rfl⟩ := List.mem_map.mp hd
    exact below_nat (h2 p hp)
theorem GWeb.webB {w : Web} (h : GWeb w) : webB (webD w) = true := by
  obtain ⟨h1, h2, h3⟩ := h
  show (decide (1 ≤ (rowsD w).length) && decide ((rowsD w).length ≤ 120) && (rowsD w).all (rowB ((rowsD w).length : Int))) = true
  rw [rowsD_len, decide_eq_true h1, decide_eq_true h2]
  show (rowsD w).all (rowB (w.length : Int)) = true
  rw [List.all_eq_true]
  intro d hd
  obtain ⟨r, hr, rfl⟩ := List.mem_map.mp hd
  exact grow_rowB (h3 r hr)
/-! #### drawn webs with their types -/
theorem nats_of : ∀ (ps : List Int) (m : Nat), (∀ p ∈ ps, 0 ≤ p ∧ p < (m : Int)) → ∃ ns : List Nat, ps.map PyData.int = natsD ns ∧ ns.length = ps.length ∧ ∀ n ∈ ns, n < m
  | [], _, _ => ⟨[], rfl, rfl, fun _ h => by cases h⟩
  | p :: ps, m, h => by
    obtain ⟨ns, e, l, hn⟩ := nats_of ps m fun q hq => h q (List.mem_cons_of_mem _ hq)
    have hp := h p List.mem_cons_self
    refine ⟨p.toNat :: ns, ?_, by simp [l], fun n hn' => ?_⟩
    · rw [List.map_cons, e]
      show _ = natD p.toNat :: natsD ns
      unfold natD
      rw [Int.toNat_of_nonneg hp.1]
    · rcases List.mem_cons.mp hn' with rfl | hn'
      · omega
      · exact hn n hn'
theorem names_good : ∀ x ∈ allNames, x ∈ goodNames := by decide +kernel
theorem heads_good : ∀ h ∈ allHeads, h.1 ∈ goodNames := by decide +kernel
theorem drow_typed {s b m : Nat} {row : PyData} (h : DRow (allHeads.take s) (allNames.take b) (m : Int) row) : ∃ r : Row, row = rowD r ∧ GRow m r := by
  rcases h with ⟨x, hx, rfl⟩ | ⟨hd, hh, ps, hl, hp, rfl⟩
  · exact ⟨(x, none), rfl, names_good x (List.mem_of_mem_take hx), (fun p hp => by cases hp), Nat.zero_le _⟩
  · obtain ⟨ns, e, l, hn⟩ := nats_of ps m hp
    have l4 := heads4 hd (List.mem_of_mem_take hh)
    refine ⟨(hd.1, some ns), ?_, heads_good hd (List.mem_of_mem_take hh), hn, ?_⟩
    · rw [e]; rfl
    · show ns.length ≤ 4
      omega
theorem rows_typed {s b m : Nat} : ∀ rows : List PyData, (∀ r ∈ rows, DRow (allHeads.take s) (allNames.take b) (m : Int) r) → ∃ w : Web, rows = rowsD w ∧ GRows m w
  | [], _ => ⟨[], rfl, fun _ h => by cases h⟩
  | row :: rows, h => by
    obtain ⟨r, e, g⟩ := drow_typed (h row List.mem_cons_self)
    obtain ⟨w, e2, g2⟩ := rows_typed rows fun q hq => h q (List.mem_cons_of_mem _ hq)
    refine ⟨r :: w, by rw [e, e2]; rfl, fun q hq => ?_⟩
    rcases List.mem_cons.mp hq with rfl | hq
    · exact g
    · exact g2 q hq
/-- a drawn web -/
def DrawnT (cal : Str → Call) : Prop := ∀ (cells : List Int) (a v : Int) (many s b : Nat), 0 ≤ a → a + 20 * many ≤ 1000000 → 0 ≤ v → 1 ≤ many → many ≤ 120 → 1 ≤ s → s ≤ 7 → b ≤ 5 →
  ∃ (w : Web) (a' v' : Int), w.length = many ∧ GWeb w ∧ a ≤ a' ∧ a' ≤ a + 20 * many ∧ 0 ≤ v' ∧
    cal "_law_drawn_web" [penW cells a v, .d (natD many), .d (natD s), .d (natD b)] = .ok (.w (.d (webD w)), [some (penW cells a' v'), some (.d (natD many)), some (.d (natD s)), some (.d (natD b))])
theorem drawn_typed {cal : Str → Call} (h : DrawnOk cal) : DrawnT cal := fun cells a v many s b h0 h1 h2 h3 h4 h5 h6 h7 => by
  obtain ⟨rows, a', v', l, hr, p1, p2, p3, e⟩ := h cells a v many s b h0 h1 h2 h3 (by omega) h5 h6 h7
  obtain ⟨w, rfl, g⟩ := rows_typed rows hr
  rw [rowsD_len] at l
  subst l
  exact ⟨w, a', v', rfl, ⟨h3, h4, g⟩, p1, p2, p3, e⟩
/-! #### what is asked of a web -/
def NeedWeb (cal : Str → Call) : Prop := ∀ w : Web, GWeb w → cal "need_web" [.d (webD w)] = .ok (.w (.d .none), [some (.d (webD w))])
def NeedRow (cal : Str → Call) : Prop := ∀ (w : Web) (a : Nat), a < w.length → cal "need_row" [.d (webD w), .d (natD a)] = .ok (.w (.d .none), [some (.d (webD w)), some (.d (natD a))])
def cneed_web : MSts := (.cons (.ife (.inv (.tru (.cal "is_web" (.cons (.var 0) .nil)))) (.cons .never
  .nil) .nil)
  .nil)
def cneed_row : MSts := (.cons (.ife (.inv (.tru (.cal "is_below" (.cons (.var 1) (.cons (.bi .len (.cons (.var 0) .nil)) .nil))))) (.cons .never
  .nil) .nil)
  .nil)
def IsWeb (cal : Str → Call) : Prop := ∀ d : PyData, Fine 64 SZ d → cal "is_web" [.d d] = .ok (.w (.d (.bool (webB d))), [some (.d d)])
theorem need_web_ok (cal : Str → Call) (h : IsWeb cal) (w : Web) (g : GWeb w) : runDf ⟨1, 1, okF [false]⟩ (cneed_web.den cal (okF [false])) [.d (webD w)] = .ok (.w (.d .none), [some (.d (webD w))]) := by
  have sz : (10000 : Nat) ≤ SZ := by decide
  have e := h (webD w) (g.fine.mono (by omega) (by omega))
  rw [g.webB] at e
  simp [run_eq, cneed_web, e, MEs.q, ME.q]
theorem need_row_ok (cal : Str → Call) (h : BelowOk cal) (w : Web) (a : Nat) (ha : a < w.length) : runDf ⟨2, 2, okF [false, false]⟩ (cneed_row.den cal (okF [false, false])) [.d (webD w), .d (natD a)] = .ok (.w (.d .none), [some (.d (webD w)), some (.d (natD a))]) := by
  have e := h (natD a) w.length rfl
  rw [below_nat ha] at e
  have bl : Bi.sem .len [.d (webD w)] = some (.d (.int (w.length : Int))) := by show some (W.d (.int ((rowsD w).length : Nat))) = _; rw [rowsD_len]
  simp [run_eq, cneed_row, e, bl, MEs.q, ME.q]
def cis_finite : MSts := (.cons (.expr (.cal "need_web" (.cons (.var 0) .nil)))
  (.cons (.expr (.cal "need_row" (.cons (.var 0) (.cons (.var 1) .nil))))
  (.cons (.ret (.cal "is_finite_row" (.cons (.var 0) (.cons (.var 1) .nil))))
  .nil)))
def IsFinOk (cal : Str → Call) : Prop := ∀ (w : Web) (a : Nat), GWeb w → a < w.length → cal "is_finite" [.d (webD w), .d (natD a)] = .ok (.w (.d (.bool (!goesB w a))), [some (.d (webD w)), some (.d (natD a))])
theorem is_finite_ok (cal : Str → Call) (hn : NeedWeb cal) (hr : NeedRow cal) (hf : FinOk cal) (w : Web) (a : Nat) (g : GWeb w) (ha : a < w.length) :
    runDf ⟨2, 2, okF [false, false]⟩ (cis_finite.den cal (okF [false, false])) [.d (webD w), .d (natD a)] = .ok (.w (.d (.bool (!goesB w a))), [some (.d (webD w)), some (.d (natD a))]) := by
  have e1 := hn w g
  have e2 := hr w a ha
  have e3 := hf w a g.closed g.plen (by have := g.2.1; omega) ha
  simp [run_eq, cis_finite, e1, e2, e3, MEs.q, ME.q]
end Rf
end

section
set_option Elab.async false
set_option linter.all false
set_option maxRecDepth 10000
/-! The law of finite rows: its parts. -/
namespace Rf
open PySem
theorem s_neS' {x y : Str} : BOp.sem .ne (.str x) (.str y) = some (.d (.bool (!decide (x = y)))) := rfl
theorem s_neB {x y : Bool} : BOp.sem .ne (.bool x) (.bool y) = some (.d (.bool (x != y))) := by cases x <;> cases y <;> rfl
theorem s_isB {x y : Bool} : BOp.sem .is (.bool x) (.bool y) = some (.d (.bool (decide (x = y)))) := rfl
theorem bool_fine' (b : Bool) : Fine 10 100000 (.bool b) := by cases b <;> exact fine_by (by decide +kernel)
theorem bool_repr (b : Bool) : Bi.sem .repr [.d (.bool b)] = some (.d (.str (PyData.shown (.bool b)))) := by
  have sz : (11000000 : Nat) ≤ SZ := by decide
  exact (bool_fine' b).repr (by omega) (by omega)
theorem web_repr {w : Web} (g : GWeb w) : Bi.sem .repr [.d (webD w)] = some (.d (.str (PyData.shown (webD w)))) := by
  have sz : (11000000 : Nat) ≤ SZ := by decide
  exact g.fine.repr (by omega) (by omega)
/-- a slot that a comprehension may take -/
def Fr (o : Option W) : Prop := o = none ∨ ∃ x, o = some (.d x)
theorem Fr.d {x : PyData} : Fr (some (.d x)) := .inr ⟨x, rfl⟩
theorem Fr.free {o : Option W} (h : Fr o) : (match some o with | some none => true | some (some (.d _)) => true | _ => false) = true := by
  rcases h with rfl | ⟨x, rfl⟩ <;> rfl
/-! #### rows that lead on -/
def enumK (k : Nat) : List PyData → List PyData
  | [] => []
  | x :: xs => .tuple [natD k, x] :: enumK (k + 1) xs
theorem enum_eq : ∀ (k : Nat) (xs : List PyData), xs.mapIdx (fun (i : Nat) d => PyData.tuple [natD (i + k), d]) = enumK k xs
  | k, [] => rfl
  | k, x :: xs => by
    rw [List.mapIdx_cons]
    have := enum_eq (k + 1) xs
    simp only [Nat.zero_add, enumK]
    rw [← this]
    congr 1
    congr 1
    funext i d
    have e : i + 1 + k = i + (k + 1) := by omega
    rw [e]
theorem enumD_eq (xs : List PyData) : enumD xs = enumK 0 xs := enum_eq 0 xs
def leastN (m i : Nat) : Nat := min (i + 1) (m - 1)
def modRow (m i : Nat) (r : Row) : Row := (r.1, r.2.map fun ps => ps.map fun p => max p (leastN m i))
def modRows (m : Nat) : Nat → Web → Web
  | _, [] => []
  | i, r :: w => modRow m i r :: modRows m (i + 1) w
theorem modRows_len (m : Nat) : ∀ (i : Nat) (w : Web), (modRows m i w).length = w.length
  | _, [] => rfl
  | i, r :: w => by simp [modRows, modRows_len m (i + 1) w]
theorem modRow_good {m i : Nat} (hm : 1 ≤ m) {r : Row} (h : GRow m r) : GRow m (modRow m i r) := by
  obtain ⟨h1, h2, h3⟩ := h
  obtain ⟨x, o⟩ := r
  cases o with
  | none => exact ⟨h1, h2, h3⟩
  | some ps =>
    refine ⟨h1, fun p hp => ?_, ?_⟩
    · have hp' : p ∈ ps.map fun p => max p (leastN m i) := hp
      obtain ⟨q, hq, rfl⟩ := List.mem_map.mp hp'
      have := h2 q hq
      unfold leastN
      omega
    · show (ps.map fun p => max p (leastN m i)).length ≤ 4
      rw [List.length_map]; exact h3
theorem modRows_good {m : Nat} (hm : 1 ≤ m) : ∀ (i : Nat) (w : Web), GRows m w → GRows m (modRows m i w)
  | _, [], h => h
  | i, r :: w, h => fun q hq => by
    rcases List.mem_cons.mp hq with rfl | hq
    · exact modRow_good hm (h r List.mem_cons_self)
    · exact modRows_good hm (i + 1) w (fun z hz => h z (List.mem_cons_of_mem _ hz)) q hq
theorem s_max (a b : Nat) : Bi.sem .max [.d (natD a), .d (natD b)] = some (.d (natD (max a b))) := by
  show some (W.d (.int (max2 (a : Int) (b : Int)))) = some (W.d (.int ((max a b : Nat) : Int)))
  congr 3
  unfold max2
  split <;> omega
theorem s_min (a b : Int) : Bi.sem .min [.d (.int a), .d (.int b)] = some (.d (.int (min2 a b))) := rfl
theorem min_least (m i : Nat) (hm : 1 ≤ m) : min2 ((i : Int) + 1) ((m : Int) - 1) = ((leastN m i : Nat) : Int) := by
  unfold min2 leastN
  split <;> omega
def modE : ME := .bi .max (.cons (.var 13) (.cons (.var 9) .nil))
theorem mod_in (cal : Str → Call) (s0 s1 s2 s3 s4 s5 s6 s7 s8 s10 s11 : Option W) (l : Nat) : ∀ (ps acc : List Nat), acc.length + ps.length ≤ 100000 →
    compL [12, 13] (Tg.put (fun _ => true) (.name 13)) (MT.den cal .yes) (ME.den cal modE) (natsD ps) [s0, s1, s2, s3, s4, s5, s6, s7, s8, some (.d (natD l)), s10, s11, none, none] (natsD acc) =
      .ok (natsD (acc ++ ps.map fun p => max p l), [s0, s1, s2, s3, s4, s5, s6, s7, s8, some (.d (natD l)), s10, s11, none, none])
  | [], acc, _ => by simp [comp_nil]
  | p :: ps, acc, h => by
    simp only [List.length_cons] at h
    have hz : acc.length < SZ := by
      have : (100000 : Nat) < SZ := by decide
      omega
    have e := s_max p l
    have ih := mod_in cal s0 s1 s2 s3 s4 s5 s6 s7 s8 s10 s11 l ps (acc ++ [max p l]) (by simp; omega)
    rw [natsD_append] at ih
    simp only [List.append_assoc, List.singleton_append] at ih
    rw [natsD_cons, comp_cons]
    simp [modE, e, hz, freeSlot, wipeE, ME.q, MEs.q]
    exact ih
def modB : MSts := (.cons (.set 9 (.bi .min (.cons (.op .add (.var 6) (.dat (.int (1)))) (.cons (.op .sub (.var 3) (.dat (.int (1)))) .nil))))
  (.cons (.expr (.app (.var 5) (.tup (.cons (.var 7) (.cons (.ife (.tst (.op .is (.var 8) (.dat .none))) (.dat .none) (.bi .tuple (.cons (.comp [12, 13] (.name 13) (.seq (.var 8)) .yes modE) .nil))) .nil)))))
  .nil))
def modT : Tg := .tup [(.name 6), (.tup [(.name 7), (.name 8)])]
theorem mod_loop (cal : Str → Call) (s0 s1 s2 s4 s10 s11 : Option W) (m : Nat) (hm : 1 ≤ m) : ∀ (w acc : Web) (i : Nat) (s6 s7 s8 s9 : Option W), (∀ r ∈ w, (rparts r).length ≤ 4) → acc.length + w.length ≤ 1000 →
    ∃ t6 t7 t8 t9, (Fr s6 → Fr t6) ∧ forL (Tg.put (okF [false]) modT) (modB.den cal (okF [false])) (enumK i (rowsD w)) [s0, s1, s2, some (.d (natD m)), s4, some (.ol (rowsD acc)), s6, s7, s8, s9, s10, s11, none, none] =
      .ok (.nx, [s0, s1, s2, some (.d (natD m)), s4, some (.ol (rowsD (acc ++ modRows m i w))), t6, t7, t8, t9, s10, s11, none, none])
  | [], acc, i, s6, s7, s8, s9, _, _ => ⟨s6, s7, s8, s9, id, by simp [rowsD, enumK, for_nil, modRows]⟩
  | r :: w, acc, i, s6, s7, s8, s9, hp, h => by
    simp only [List.length_cons] at h
    have hz : acc.length < SZ := by
      have : (1000 : Nat) < SZ := by decide
      omega
    have hz2 : (2 : Nat) ≤ SZ := by decide
    have em := min_least m i hm
    have e1 : BOp.sem .add (natD i) (.int 1) = some (.d (.int ((i : Int) + 1))) := rfl
    have e2 : BOp.sem .sub (natD m) (.int 1) = some (.d (.int ((m : Int) - 1))) := rfl
    have e3 := s_min ((i : Int) + 1) ((m : Int) - 1)
    rw [em] at e3
    have ea : rowsD (acc ++ [modRow m i r]) = rowsD acc ++ [rowD (modRow m i r)] := by simp [rowsD]
    obtain ⟨t6, t7, t8, t9, hfr, ih⟩ := mod_loop cal s0 s1 s2 s4 s10 s11 m hm w (acc ++ [modRow m i r]) (i + 1) (some (.d (natD i))) (some (.d (.str r.1))) (some (.d (partsD r.2))) (some (.d (natD (leastN m i)))) (fun q hq => hp q (List.mem_cons_of_mem _ hq)) (by simp; omega)
    refine ⟨t6, t7, t8, t9, fun _ => hfr .d, ?_⟩
    have tp : Tg.put (okF [false]) modT (.tuple [natD i, rowD r]) [s0, s1, s2, some (.d (natD m)), s4, some (.ol (rowsD acc)), s6, s7, s8, s9, s10, s11, none, none] =
        .ok [s0, s1, s2, some (.d (natD m)), s4, some (.ol (rowsD acc)), some (.d (natD i)), some (.d (.str r.1)), some (.d (partsD r.2)), s9, s10, s11, none, none] := by
      simp [modT, rowD]
    have hbody : modB.den cal (okF [false]) [s0, s1, s2, some (.d (natD m)), s4, some (.ol (rowsD acc)), some (.d (natD i)), some (.d (.str r.1)), some (.d (partsD r.2)), s9, s10, s11, none, none] =
        .ok (.nx, [s0, s1, s2, some (.d (natD m)), s4, some (.ol (rowsD (acc ++ [modRow m i r]))), some (.d (natD i)), some (.d (.str r.1)), some (.d (partsD r.2)), some (.d (natD (leastN m i))), s10, s11, none, none]) := by
      rw [ea]
      obtain ⟨x, o⟩ := r
      have nl : PyData.int ((leastN m i : Nat) : Int) = natD (leastN m i) := rfl
      rw [nl] at e3
      cases o with
      | none => simp [modB, e1, e2, e3, partsD, isN, hz, hz2, modRow, rowD, MEs.q, ME.q]
      | some ps =>
        have inner := mod_in cal s0 s1 s2 (some (.d (natD m))) s4 (some (.ol (rowsD acc))) (some (.d (natD i))) (some (.d (.str x))) (some (.d (.tuple (natsD ps)))) s10 s11 (leastN m i) ps [] (by have := hp _ List.mem_cons_self; simp [rparts] at this ⊢; omega)
        simp only [List.nil_append, natsD_nil] at inner
        simp [modB, e1, e2, e3, partsD, isN, hz, hz2, modRow, rowD, freeSlot, wipeE, MEs.q, ME.q]
        rw [inner]
        simp [backE, hz, hz2, natsD, MEs.q, ME.q]
    rw [show enumK i (rowsD (r :: w)) = .tuple [natD i, rowD r] :: enumK (i + 1) (rowsD w) from rfl, for_cons, tp, rb_ok, kFor_ap, hbody, rb_ok, kFor2_nx, ih]
    simp [modRows]

/-! #### the looks -/
def lookB3 : MSts := (.cons (.ife (.alt (.tst (.op .ne (.bi .repr (.cons (.cal "is_finite" (.cons (.var 4) (.cons (.var 6) .nil))) .nil)) (.bi .repr (.cons (.inv (.cal "_law_goes_round" (.cons (.var 4) (.cons (.var 6) .nil)))) .nil)))) (.tst (.op .ne (.bi .repr (.cons (.var 4) .nil)) (.var 10)))) (.cons (.ret (.dat (.bool false)))
  .nil) .nil)
  .nil)
theorem look3 (cal : Str → Call) (hf : IsFinOk cal) (hg : GoesOk cal) (w : Web) (g : GWeb w) (s0 s1 s2 s3 s5 s7 s8 s9 s11 : Option W) : ∀ (xs : List Nat) (s6 : Option W), (∀ x ∈ xs, x < w.length) →
    ∃ t6, (Fr s6 → Fr t6) ∧ forL (Tg.put (okF [false]) (.name 6)) (lookB3.den cal (okF [false])) (natsD xs) [s0, s1, s2, s3, some (.d (webD w)), s5, s6, s7, s8, s9, some (.d (.str (PyData.shown (webD w)))), s11, none, none] =
      .ok (.nx, [s0, s1, s2, s3, some (.d (webD w)), s5, t6, s7, s8, s9, some (.d (.str (PyData.shown (webD w)))), s11, none, none])
  | [], s6, _ => ⟨s6, id, for_nil⟩
  | x :: xs, s6, h => by
    have hx := h x List.mem_cons_self
    have e1 := hf w x g hx
    have e2 := hg w x g.closed g.plen (by have := g.2.1; omega) hx
    have r1 := bool_repr (!goesB w x)
    have r2 := web_repr g
    obtain ⟨t6, hfr, ih⟩ := look3 cal hf hg w g s0 s1 s2 s3 s5 s7 s8 s9 s11 xs (some (.d (natD x))) fun y hy => h y (List.mem_cons_of_mem _ hy)
    refine ⟨t6, fun _ => hfr .d, ?_⟩
    rw [natsD_cons, for_cons]
    simp [lookB3, e1, e2, r1, r2, s_neS', MEs.q, ME.q]
    exact ih
/-! #### chains -/
theorem g_good : ("g" : Str) ∈ goodNames := by decide
theorem a_good : ("a" : Str) ∈ goodNames := by decide
theorem x_good : ("x" : Str) ∈ goodNames := by decide
theorem no_goes {w : Web} (hc : Closed w) (h : ∀ a, ∀ p ∈ parts w a, a < p) {a : Nat} (ha : a < w.length) : goesB w a = false := by
  have mono : ∀ {x y : Nat}, Path w x y → x ≤ y := fun {x y} p => by
    induction p with
    | refl => exact Nat.le_refl _
    | step _ e ih => exact Nat.le_of_lt (Nat.lt_of_le_of_lt ih (h _ _ e))
  cases hg : goesB w a with
  | false => rfl
  | true =>
    obtain ⟨r, hr, hh⟩ := List.any_eq_true.mp hg
    obtain ⟨p, hp, hh⟩ := List.any_eq_true.mp hh
    have pr := (mem_reach hc (hc _ _ hp)).mp (of_decide_eq_true hh)
    have := mono pr
    have := h r p hp
    omega
def chainW (m : Nat) (last : Row) : Web := (List.range (m - 1)).map (fun i => (("g" : Str), some [i + 1])) ++ [last]
theorem chain_len {m : Nat} {last : Row} (hm : 1 ≤ m) : (chainW m last).length = m := by
  unfold chainW
  simp; omega
theorem chain_parts {m : Nat} {last : Row} {i : Nat} (h : i < m - 1) : parts (chainW m last) i = [i + 1] := by
  unfold parts chainW
  rw [List.getElem?_append_left (by simpa using h)]
  simp [h, rparts]
theorem chain_last {m : Nat} {last : Row} (hm : 1 ≤ m) : parts (chainW m last) (m - 1) = rparts last := by
  unfold parts chainW
  rw [List.getElem?_append_right (by simp)]
  simp
theorem chain_good {m : Nat} {last : Row} (hm : 1 ≤ m) (hm2 : m ≤ 120) (hl : GRow m last) : GWeb (chainW m last) := by
  refine ⟨by rw [chain_len hm]; exact hm, by rw [chain_len hm]; exact hm2, ?_⟩
  rw [chain_len hm]
  intro r hr
  rcases List.mem_append.mp hr with hr | hr
  · obtain ⟨i, hi, rfl⟩ := List.mem_map.mp hr
    have hi' := List.mem_range.mp hi
    exact ⟨g_good, (fun p hp => by have : p ∈ [i + 1] := hp; rw [List.mem_singleton.mp this]; omega), show [i + 1].length ≤ 4 by simp⟩
  · rw [List.mem_singleton.mp hr]; exact hl
theorem chain_goes {m t : Nat} (hm : 1 ≤ m) (hm2 : m ≤ 120) (ht : t < m) : goesB (chainW m ("g", some [t])) 0 = true := by
  have g : GWeb (chainW m ("g", some [t])) := chain_good hm hm2 ⟨g_good, (fun p hp => by have : p ∈ [t] := hp; rw [List.mem_singleton.mp this]; exact ht), show [t].length ≤ 4 by simp⟩
  have hc := g.closed
  have len := chain_len (last := ("g", some [t])) hm
  have fwd : ∀ d i, i + d < m → Path (chainW m ("g", some [t])) i (i + d) := fun d => by
    induction d with
    | zero => exact fun i _ => .refl _
    | succ d ih =>
      intro i h
      refine (ih i (by omega)).step ?_
      rw [chain_parts (by omega)]; simp; omega
  have hp : t ∈ parts (chainW m ("g", some [t])) (m - 1) := by rw [chain_last hm]; exact List.mem_singleton.mpr rfl
  refine List.any_eq_true.mpr ⟨m - 1, (mem_reach hc (by omega)).mpr ?_, List.any_eq_true.mpr ⟨t, hp, decide_eq_true ((mem_reach hc (by omega)).mpr ?_)⟩⟩
  · have := fwd (m - 1) 0 (by omega)
    rwa [Nat.zero_add] at this
  · have := fwd (m - 1 - t) t (by omega)
    rwa [show t + (m - 1 - t) = m - 1 by omega] at this
theorem chain_ends {m : Nat} (hm : 1 ≤ m) (hm2 : m ≤ 120) : GWeb (chainW m ("a", some [])) ∧ goesB (chainW m ("a", some [])) 0 = false := by
  have g : GWeb (chainW m ("a", some [])) := chain_good hm hm2 ⟨a_good, (fun p hp => by cases hp), Nat.zero_le _⟩
  have len := chain_len (last := ("a", some [])) hm
  refine ⟨g, no_goes g.closed (fun a p hp => ?_) (by omega)⟩
  by_cases h : a < m - 1
  · rw [chain_parts h] at hp
    rw [List.mem_singleton.mp hp]; omega
  · by_cases h2 : a = m - 1
    · subst h2
      rw [chain_last hm] at hp
      cases hp
    · unfold parts at hp
      rw [List.getElem?_eq_none (by omega)] at hp
      cases hp
def twoW : Web := [("g", some [1]), ("x", none)]
theorem two_good : GWeb twoW := ⟨by decide, by decide, fun r hr => by
  have : r = (("g" : Str), some [1]) ∨ r = (("x" : Str), none) := by simpa [twoW] using hr
  rcases this with rfl | rfl
  · exact ⟨g_good, (fun p hp => by have : p ∈ [1] := hp; rw [List.mem_singleton.mp this]; decide), by decide⟩
  · exact ⟨x_good, (fun p hp => by cases hp), Nat.zero_le _⟩⟩
theorem two_goes : goesB twoW 0 = false := by decide +kernel
end Rf
end

section
set_option Elab.async false
set_option linter.all false
set_option maxRecDepth 10000
/-! Rows at paths: the two programs, the meaning. -/
namespace Rf
open PySem
/-- along a path -/
def lead (w : Web) : Nat → List Nat → Option Nat
  | a, [] => some a
  | a, p :: ps => match (parts w a)[p]? with
    | some b => lead w b ps
    | none => none
def optD : Option Nat → PyData
  | none => .none
  | some a => natD a
theorem s_ge (a b : Nat) : BOp.sem .ge (natD a) (.int (b : Int)) = some (.d (.bool (decide (b ≤ a)))) := by
  show some (W.d (.bool (decide ((b : Int) ≤ (a : Int))))) = _
  congr 3
  rw [decide_eq_decide]; omega
theorem len_t (ps : List Nat) : Bi.sem .len [.d (.tuple (natsD ps))] = some (.d (.int (ps.length : Int))) := by show some (W.d (.int ((natsD ps).length : Nat))) = _; rw [natsD_len]
theorem ix_t {ps : List Nat} {p : Nat} (h : p < ps.length) : dIx (.d (.tuple (natsD ps))) (natD p) = some (.d (natD ps[p])) := by show (L2.atI (natsD ps) (p : Int)).map W.d = _; rw [natsD_get h]; rfl
theorem ix_w {w : Web} {a : Nat} (h : a < w.length) : dIx (.d (.tuple (rowsD w))) (natD a) = some (.d (rowD w[a])) := by show (L2.atI (rowsD w) (a : Int)).map W.d = _; rw [rowsD_get h]; rfl
def findB : MSts := (.cons (.set 4 (.cal "parts_of" (.cons (.ix (.var 0) (.var 1)) .nil)))
  (.cons (.ife (.tst (.op .ge (.var 3) (.bi .len (.cons (.var 4) .nil)))) (.cons (.ret (.dat .none))
  .nil) .nil)
  (.cons (.set 1 (.ix (.var 4) (.var 3)))
  .nil)))
def cfind_row : MSts := (.cons (.loop (.name 3) (.seq (.var 2)) findB)
  (.cons (.ret (.var 1))
  .nil))
theorem find_loop (cal : Str → Call) (hp : PartsOk "parts_of" cal) (w : Web) (hc : Closed w) (s2 : Option W) : ∀ (path : List Nat) (a : Nat) (s3 s4 : Option W), a < w.length →
    (∃ b t3 t4, lead w a path = some b ∧ b < w.length ∧ forL (Tg.put (okF [false, true, false]) (.name 3)) (findB.den cal (okF [false, true, false])) (natsD path) [some (.d (webD w)), some (.d (natD a)), s2, s3, s4] = .ok (.nx, [some (.d (webD w)), some (.d (natD b)), s2, t3, t4])) ∨
    (∃ b t3 t4, lead w a path = none ∧ forL (Tg.put (okF [false, true, false]) (.name 3)) (findB.den cal (okF [false, true, false])) (natsD path) [some (.d (webD w)), some (.d (natD a)), s2, s3, s4] = .ok (.ret (.w (.d .none)), [some (.d (webD w)), some (.d (natD b)), s2, t3, t4]))
  | [], a, s3, s4, ha => .inl ⟨a, s3, s4, rfl, ha, for_nil⟩
  | p :: ps, a, s3, s4, ha => by
    have e1 := ix_w ha
    have e2 := hp w[a]
    have e3 := s_ge p (rparts w[a]).length
    have e4 := len_t (rparts w[a])
    have tp : Tg.put (okF [false, true, false]) (.name 3) (natD p) [some (.d (webD w)), some (.d (natD a)), s2, s3, s4] = .ok [some (.d (webD w)), some (.d (natD a)), s2, some (.d (natD p)), s4] := by simp
    by_cases h : p < (rparts w[a]).length
    · have hg : (parts w a)[p]? = some ((rparts w[a])[p]) := by rw [parts_at ha]; exact List.getElem?_eq_getElem h
      have hlt : (rparts w[a])[p] < w.length := hc a _ (by rw [parts_at ha]; exact List.getElem_mem _)
      have el : lead w a (p :: ps) = lead w ((rparts w[a])[p]) ps := by
        show (match (parts w a)[p]? with | some b => lead w b ps | none => none) = _
        rw [hg]
      have hn : ¬ (rparts w[a]).length ≤ p := by omega
      have e5 := ix_t h
      have hbody : findB.den cal (okF [false, true, false]) [some (.d (webD w)), some (.d (natD a)), s2, some (.d (natD p)), s4] = .ok (.nx, [some (.d (webD w)), some (.d (natD ((rparts w[a])[p]))), s2, some (.d (natD p)), some (.d (.tuple (natsD (rparts w[a]))))]) := by
        unfold webD
        simp [findB, e1, e2, e3, e4, e5, hn, MEs.q, ME.q]
      rw [el, natsD_cons, for_cons, tp, rb_ok, kFor_ap, hbody, rb_ok, kFor2_nx]
      exact find_loop cal hp w hc s2 ps _ _ _ hlt
    · have hg : (parts w a)[p]? = none := by rw [parts_at ha]; exact List.getElem?_eq_none (by omega)
      have el : lead w a (p :: ps) = none := by
        show (match (parts w a)[p]? with | some b => lead w b ps | none => none) = _
        rw [hg]
      have hn : (rparts w[a]).length ≤ p := by omega
      have hbody : findB.den cal (okF [false, true, false]) [some (.d (webD w)), some (.d (natD a)), s2, some (.d (natD p)), s4] = .ok (.ret (.w (.d .none)), [some (.d (webD w)), some (.d (natD a)), s2, some (.d (natD p)), some (.d (.tuple (natsD (rparts w[a]))))]) := by
        unfold webD
        simp [findB, e1, e2, e3, e4, hn, MEs.q, ME.q]
      refine .inr ⟨a, some (.d (natD p)), some (.d (.tuple (natsD (rparts w[a])))), el, ?_⟩
      rw [natsD_cons, for_cons, tp, rb_ok, kFor_ap, hbody, rb_ok]
      rfl
def FindOk (cal : Str → Call) : Prop := ∀ (w : Web) (a : Nat) (path : List Nat), Closed w → a < w.length → cal "find_row" [.d (webD w), .d (natD a), .d (.tuple (natsD path))] = .ok (.w (.d (optD (lead w a path))), [some (.d (webD w)), none, some (.d (.tuple (natsD path)))])
theorem find_row_ok (cal : Str → Call) (hp : PartsOk "parts_of" cal) (w : Web) (a : Nat) (path : List Nat) (hc : Closed w) (ha : a < w.length) :
    runDf ⟨3, 5, okF [false, true, false]⟩ (cfind_row.den cal (okF [false, true, false])) [.d (webD w), .d (natD a), .d (.tuple (natsD path))] = .ok (.w (.d (optD (lead w a path))), [some (.d (webD w)), none, some (.d (.tuple (natsD path)))]) := by
  rcases find_loop cal hp w hc (some (.d (.tuple (natsD path)))) path a none none ha with ⟨b, t3, t4, el, _, e⟩ | ⟨b, t3, t4, el, e⟩
  · rw [el]
    simp [run_eq, cfind_row, List.replicate, MEs.q, ME.q]
    try simp at e
    rw [e]
    simp [optD]
  · rw [el]
    simp [run_eq, cfind_row, List.replicate, MEs.q, ME.q]
    try simp at e
    rw [e]
    simp [optD]
/-! #### the law's -/
def leadB : MSts := (.cons (.ife (.tst (.op .ge (.var 3) (.bi .len (.cons (.cal "_law_parts_of" (.cons (.ix (.var 0) (.var 1)) .nil)) .nil)))) (.cons (.ret (.dat .none))
  .nil) .nil)
  (.cons (.set 1 (.ix (.ix (.ix (.var 0) (.var 1)) (.dat (.int (1)))) (.var 3)))
  .nil))
def c_law_lead : MSts := (.cons (.loop (.name 3) (.seq (.var 2)) leadB)
  (.cons (.ret (.var 1))
  .nil))
theorem lead_loop (cal : Str → Call) (hp : PartsOk "_law_parts_of" cal) (w : Web) (hc : Closed w) (s2 : Option W) : ∀ (path : List Nat) (a : Nat) (s3 : Option W), a < w.length →
    (∃ b t3, lead w a path = some b ∧ b < w.length ∧ forL (Tg.put (okF [false, true, false]) (.name 3)) (leadB.den cal (okF [false, true, false])) (natsD path) [some (.d (webD w)), some (.d (natD a)), s2, s3] = .ok (.nx, [some (.d (webD w)), some (.d (natD b)), s2, t3])) ∨
    (∃ b t3, lead w a path = none ∧ forL (Tg.put (okF [false, true, false]) (.name 3)) (leadB.den cal (okF [false, true, false])) (natsD path) [some (.d (webD w)), some (.d (natD a)), s2, s3] = .ok (.ret (.w (.d .none)), [some (.d (webD w)), some (.d (natD b)), s2, t3]))
  | [], a, s3, ha => .inl ⟨a, s3, rfl, ha, for_nil⟩
  | p :: ps, a, s3, ha => by
    have e1 := ix_w ha
    have e2 := hp w[a]
    have e3 := s_ge p (rparts w[a]).length
    have e4 := len_t (rparts w[a])
    have tp : Tg.put (okF [false, true, false]) (.name 3) (natD p) [some (.d (webD w)), some (.d (natD a)), s2, s3] = .ok [some (.d (webD w)), some (.d (natD a)), s2, some (.d (natD p))] := by simp
    by_cases h : p < (rparts w[a]).length
    · have hg : (parts w a)[p]? = some ((rparts w[a])[p]) := by rw [parts_at ha]; exact List.getElem?_eq_getElem h
      have hlt : (rparts w[a])[p] < w.length := hc a _ (by rw [parts_at ha]; exact List.getElem_mem _)
      have el : lead w a (p :: ps) = lead w ((rparts w[a])[p]) ps := by
        show (match (parts w a)[p]? with | some b => lead w b ps | none => none) = _
        rw [hg]
      have hn : ¬ (rparts w[a]).length ≤ p := by omega
      have e5 := ix_t h
      have e6 : dIx (.d (rowD w[a])) (.int 1) = some (.d (.tuple (natsD (rparts w[a])))) := by
        generalize w[a] = r at h ⊢
        obtain ⟨x, o⟩ := r
        cases o with
        | none => exact absurd h (Nat.not_lt_zero _)
        | some ps => rfl
      have hbody : leadB.den cal (okF [false, true, false]) [some (.d (webD w)), some (.d (natD a)), s2, some (.d (natD p))] = .ok (.nx, [some (.d (webD w)), some (.d (natD ((rparts w[a])[p]))), s2, some (.d (natD p))]) := by
        unfold webD
        simp [leadB, e1, e2, e3, e4, e5, e6, hn, MEs.q, ME.q]
      rw [el, natsD_cons, for_cons, tp, rb_ok, kFor_ap, hbody, rb_ok, kFor2_nx]
      exact lead_loop cal hp w hc s2 ps _ _ hlt
    · have hg : (parts w a)[p]? = none := by rw [parts_at ha]; exact List.getElem?_eq_none (by omega)
      have el : lead w a (p :: ps) = none := by
        show (match (parts w a)[p]? with | some b => lead w b ps | none => none) = _
        rw [hg]
      have hn : (rparts w[a]).length ≤ p := by omega
      have hbody : leadB.den cal (okF [false, true, false]) [some (.d (webD w)), some (.d (natD a)), s2, some (.d (natD p))] = .ok (.ret (.w (.d .none)), [some (.d (webD w)), some (.d (natD a)), s2, some (.d (natD p))]) := by
        unfold webD
        simp [leadB, e1, e2, e3, e4, hn, MEs.q, ME.q]
      refine .inr ⟨a, some (.d (natD p)), el, ?_⟩
      rw [natsD_cons, for_cons, tp, rb_ok, kFor_ap, hbody, rb_ok]
      rfl
def LeadOk (cal : Str → Call) : Prop := ∀ (w : Web) (a : Nat) (path : List Nat), Closed w → a < w.length → cal "_law_lead" [.d (webD w), .d (natD a), .ol (natsD path)] = .ok (.w (.d (optD (lead w a path))), [some (.d (webD w)), none, some (.d (.list (natsD path)))])
theorem law_lead_ok (cal : Str → Call) (hp : PartsOk "_law_parts_of" cal) (w : Web) (a : Nat) (path : List Nat) (hc : Closed w) (ha : a < w.length) :
    runDf ⟨3, 4, okF [false, true, false]⟩ (c_law_lead.den cal (okF [false, true, false])) [.d (webD w), .d (natD a), .ol (natsD path)] = .ok (.w (.d (optD (lead w a path))), [some (.d (webD w)), none, some (.d (.list (natsD path)))]) := by
  rcases lead_loop cal hp w hc (some (.d (.list (natsD path)))) path a none ha with ⟨b, t3, el, _, e⟩ | ⟨b, t3, el, e⟩
  · rw [el]
    simp [run_eq, c_law_lead, List.replicate, MEs.q, ME.q]
    try simp at e
    rw [e]
    simp [optD]
  · rw [el]
    simp [run_eq, c_law_lead, List.replicate, MEs.q, ME.q]
    try simp at e
    rw [e]
    simp [optD]
end Rf
end

section
set_option Elab.async false
set_option linter.all false
set_option maxRecDepth 10000
/-! The names of blanks; what is asked of a path. -/
namespace Rf
open PySem
def blankOf (w : Web) (a : Nat) : List Str := match w[a]? with
  | some (x, none) => [x]
  | _ => []
def namesOf (w : Web) (l : List Nat) : List Str := l.flatMap (blankOf w)
def strsL (l : List Str) : List PyData := l.map PyData.str
def blkC (v j : Nat) : MT := .tst (.op .is (.ix (.ix (.var v) (.var j)) (.dat (.int (1)))) (.dat .none))
def blkE (v j : Nat) : ME := .ix (.ix (.var v) (.var j)) (.dat (.int (0)))
theorem names_loop (cal : Str → Call) (w : Web) (own : List Nat) (v j : Nat) (e : Env) (hput : ∀ x, Tg.put (fun _ => true) (.name j) x e = .ok (e.set j (some (.d x)))) (hv : ∀ x, (e.set j (some (.d x)))[v]? = some (some (.d (webD w)))) (hj : ∀ x, (e.set j (some (.d x)))[j]? = some (some (.d x)))
    (hw : ∀ x, wipeE (e.set j (some (.d x))) own = e) (hf : ∀ x, own.all (freeSlot (e.set j (some (.d x)))) = true) : ∀ (l : List Nat) (acc : List Str), (∀ x ∈ l, x < w.length) → acc.length + l.length ≤ 1000 →
    compL own (Tg.put (fun _ => true) (.name j)) (MT.den cal (blkC v j)) (ME.den cal (blkE v j)) (natsD l) e (strsL acc) = .ok (strsL (acc ++ namesOf w l), e)
  | [], acc, _, _ => by simp [comp_nil, namesOf]
  | a :: l, acc, hb, h => by
    simp only [List.length_cons] at h
    have hz : acc.length < SZ := by
      have : (1000 : Nat) < SZ := by decide
      omega
    have ha := hb a List.mem_cons_self
    have e1 := ix_w ha
    have g : w[a]? = some w[a] := List.getElem?_eq_getElem ha
    have hv' := hv (natD a)
    have hj' := hj (natD a)
    have hw' := hw (natD a)
    have hf' := hf (natD a)
    have hp' := hput (natD a)
    have ih := names_loop cal w own v j e hput hv hj hw hf l (acc ++ blankOf w a) (fun y hy => hb y (List.mem_cons_of_mem _ hy)) (by
      have : (blankOf w a).length ≤ 1 := by unfold blankOf; split <;> simp
      rw [List.length_append]; omega)
    rw [natsD_cons, comp_cons, hp', rb_ok, kCmp1_ap]
    generalize e.set j (some (.d (natD a))) = e' at hv' hj' hw' hf'
    unfold webD at hv'
    cases hr : w[a] with
    | mk x o =>
    rw [hr] at e1 g
    have en : namesOf w (a :: l) = blankOf w a ++ namesOf w l := rfl
    cases o with
    | none =>
      have eb : blankOf w a = [x] := by unfold blankOf; rw [g]
      rw [eb] at ih en
      have ec : MT.den cal (blkC v j) e' = .ok (true, e') := by
        unfold blkC
        simp [hv', hj', e1, rowD, partsD, isN, MEs.q, ME.q]
      have ee : ME.den cal (blkE v j) e' = .ok (.w (.d (.str x)), e') := by
        unfold blkE
        simp [hv', hj', e1, rowD, partsD, MEs.q, ME.q]
      have es : strsL (acc ++ [x]) = strsL acc ++ [.str x] := by simp [strsL]
      have hl : (strsL acc).length = acc.length := by simp [strsL]
      rw [es] at ih
      rw [ec, rb_ok, kCmp2_ap, if_pos rfl, ee, en]
      simp only [rb_ok, kFrz_d, kCmp3_ap, hl, hz, hf', hw', decide_true, Bool.and_self, chk_true]
      rw [ih, List.append_assoc]
    | some ps =>
      have eb : blankOf w a = [] := by unfold blankOf; rw [g]
      rw [eb] at ih en
      have ec : MT.den cal (blkC v j) e' = .ok (false, e') := by
        unfold blkC
        simp [hv', hj', e1, rowD, partsD, isN, MEs.q, ME.q]
      rw [ec, rb_ok, kCmp2_ap, if_neg Bool.false_ne_true, hf', hw', chk_true, en]
      simpa using ih
/-- the names, each once, in order -/
def blanksL (w : Web) (a : Nat) : List Str := sortL tLe (dd (namesOf w (reach w a)))
theorem strs_of : ∀ l : List Str, strsD (strsL l) = some l
  | [] => rfl
  | x :: l => by
    show (strsD (strsL l)).map _ = _
    rw [strs_of l]; rfl
theorem s_sset {l : List Str} (h : l.length ≤ 1000) : Bi.sem .sset [.ol (strsL l)] = some (.ol (strsL (sortL tLe (dd l)))) := by
  cases l with
  | nil => rfl
  | cons x l =>
    have h1 : intsD (strsL (x :: l)) = none := rfl
    have h2 := strs_of (x :: l)
    have h3 : (x :: l).length < SB := Nat.lt_of_le_of_lt h (by decide)
    show oSortSet [.ol (strsL (x :: l))] = _
    unfold oSortSet
    show (some (strsL (x :: l))).bind _ = _
    rw [Option.bind_some, h1, h2]
    dsimp only
    rw [Option.bind_some, decide_eq_true h3, if_pos rfl]
    rfl
theorem blank_mem {w : Web} (g : GWeb w) {a : Nat} {x : Str} (h : x ∈ blankOf w a) : x ∈ goodNames := by
  unfold blankOf at h
  split at h
  · rename_i y hr
    rw [List.mem_singleton.mp h]
    exact (g.2.2 _ (List.mem_of_getElem? hr)).1
  · cases h
theorem names_len (w : Web) : ∀ l : List Nat, (namesOf w l).length ≤ l.length
  | [] => Nat.le_refl _
  | a :: l => by
    have : (blankOf w a).length ≤ 1 := by unfold blankOf; split <;> simp
    have := names_len w l
    show (blankOf w a ++ namesOf w l).length ≤ _
    rw [List.length_append, List.length_cons]; omega
theorem reach_len {w : Web} (hc : Closed w) {a : Nat} (ha : a < w.length) : (reach w a).length ≤ w.length :=
  nodup_le _ (bfs_nodup _ _ _ (by simp)) (bfs_lt hc _ _ _ (by simpa using ha))
theorem reach_lt {w : Web} (hc : Closed w) {a : Nat} (ha : a < w.length) : ∀ x ∈ reach w a, x < w.length := bfs_lt hc _ _ _ (by simpa using ha)
theorem good_list : ∀ l : List Str, (∀ x ∈ l, x ∈ goodNames) → FineL 0 (21 * l.length) (strsL l)
  | [], _ => FineL.nil
  | x :: l, h => by
    have gf := good_fine x (h x List.mem_cons_self)
    rw [Bool.and_eq_true] at gf
    have := FineL.cons (fine_by gf.1) (good_list l fun y hy => h y (List.mem_cons_of_mem _ hy))
    exact this.mono (Nat.le_refl _) (by simp only [List.length_cons]; omega)
theorem ddf_mem {α : Type} [DecidableEq α] {x : α} : ∀ {l acc : List α}, x ∈ l.foldl dd1 acc → x ∈ acc ∨ x ∈ l
  | [], _, h => .inl h
  | y :: l, acc, h => by
    rcases ddf_mem (l := l) (acc := dd1 acc y) h with h | h
    · unfold dd1 at h
      split at h
      · exact .inl h
      · rcases List.mem_append.mp h with h | h
        · exact .inl h
        · exact .inr (by rw [List.mem_singleton.mp h]; exact List.mem_cons_self)
    · exact .inr (List.mem_cons_of_mem _ h)
theorem dd_mem {α : Type} [DecidableEq α] {l : List α} {x : α} (h : x ∈ dd l) : x ∈ l := (ddf_mem (acc := []) h).elim (fun z => by cases z) id
theorem blanks_fine {w : Web} (g : GWeb w) {a : Nat} (ha : a < w.length) : Fine 1 10000 (.list (strsL (blanksL w a))) := by
  have p := sortL_perm tLe (dd (namesOf w (reach w a)))
  have hl : (blanksL w a).length ≤ 120 := by
    have l1 := p.length_eq
    have l2 := dd_len (namesOf w (reach w a))
    have l3 := names_len w (reach w a)
    have l4 := reach_len g.closed ha
    have l5 := g.2.1
    unfold blanksL
    omega
  refine (good_list (blanksL w a) fun x hx => ?_).lst.mono (by omega) (by omega)
  have := dd_mem (p.mem_iff.mp hx)
  obtain ⟨b, _, hb⟩ := List.mem_flatMap.mp this
  exact blank_mem g hb
theorem list_repr {D W : Nat} {xs : List PyData} (h : Fine D W (.list xs)) (hD : D ≤ 64) (hW : W ≤ 100000) : Bi.sem .repr [.ol xs] = some (.d (.str (PyData.shown (.list xs)))) ∧ Bi.sem .repr [.d (.list xs)] = some (.d (.str (PyData.shown (.list xs)))) := by
  have sz : (11000000 : Nat) ≤ SZ := by decide
  have := h.repr hD (by omega)
  exact ⟨this, this⟩
theorem reach_fine {w : Web} (g : GWeb w) {a : Nat} (ha : a < w.length) : Fine 1 10000 (.list (natsD (reach w a))) := by
  have l4 := reach_len g.closed ha
  have l5 := g.2.1
  exact (ints_fine' (reach w a) fun p hp => by have := reach_lt g.closed ha p hp; omega).lst.mono (by omega) (by omega)
end Rf
end

section
set_option Elab.async false
set_option linter.all false
set_option maxRecDepth 10000
/-! What the module gives out: row_at, reached, blanks_of. -/
namespace Rf
open PySem
def cis_path : MSts := (.cons (.ret (.both (.isi .tuple (.var 0)) (.bi .all (.cons (.comp [1, 2] (.name 2) (.seq (.var 0)) .yes (.both (.cal "is_integer" (.cons (.var 2) .nil)) (.op .ge (.var 2) (.dat (.int (0)))))) .nil))))
  .nil)
theorem ge_zero (p : Nat) : BOp.sem .ge (natD p) (.int 0) = some (.d (.bool true)) := by
  show some (W.d (.bool (decide ((0 : Int) ≤ (p : Int))))) = _
  rw [decide_eq_true (by omega)]
theorem path_loop (cal : Str → Call) (hi : IntOk cal) (s : W) : ∀ (ps : List Nat) (acc : List PyData), acc.length + ps.length ≤ 10000 →
    compL [1, 2] (Tg.put (fun _ => true) (.name 2)) (MT.den cal .yes) (ME.den cal (.both (.cal "is_integer" (.cons (.var 2) .nil)) (.op .ge (.var 2) (.dat (.int (0)))))) (natsD ps) [some s, none, none] acc =
      .ok (acc ++ ps.map (fun _ => .bool true), [some s, none, none])
  | [], acc, _ => by simp [comp_nil]
  | p :: ps, acc, h => by
    simp only [List.length_cons] at h
    have hz : acc.length < SZ := by
      have : (10000 : Nat) < SZ := by decide
      omega
    have e := hi (natD p) rfl
    have e' : intB (natD p) = true := rfl
    rw [e'] at e
    have e2 := ge_zero p
    have ih := path_loop cal hi s ps (acc ++ [.bool true]) (by simp; omega)
    rw [natsD_cons, comp_cons]
    simp [e, e2, hz, freeSlot, wipeE, ih, ME.q, MEs.q]
def PathOk (cal : Str → Call) : Prop := ∀ ps : List Nat, ps.length ≤ 10000 → cal "is_path" [.d (.tuple (natsD ps))] = .ok (.w (.d (.bool true)), [some (.d (.tuple (natsD ps)))])
theorem is_path_ok (cal : Str → Call) (hi : IntOk cal) (ps : List Nat) (h : ps.length ≤ 10000) : runDf ⟨1, 3, okF [false]⟩ (cis_path.den cal (okF [false])) [.d (.tuple (natsD ps))] = .ok (.w (.d (.bool true)), [some (.d (.tuple (natsD ps)))]) := by
  have loop := path_loop cal hi (.d (.tuple (natsD ps))) ps [] (by simpa using h)
  have all := b_all (fun _ : Nat => true) ps
  have at1 : ps.all (fun _ => true) = true := by simp
  rw [at1] at all
  simp only [List.nil_append] at loop
  have it : ∀ e : Env, isiR .tuple (some (.d (.tuple (natsD ps)))) e = .ok (.w (.d (.bool true)), e) := fun e => rfl
  simp [run_eq, cis_path, List.replicate, it, freeSlot, wipeE, backE, MEs.q, ME.q]
  rw [loop]
  simp only [rb_ok, kCm2_ap]
  simp [backE, all, MEs.q, ME.q]
def crow_at : MSts := (.cons (.expr (.cal "need_web" (.cons (.var 0) .nil)))
  (.cons (.expr (.cal "need_row" (.cons (.var 0) (.cons (.var 1) .nil))))
  (.cons (.ife (.inv (.tru (.cal "is_path" (.cons (.var 2) .nil)))) (.cons .never
  .nil) .nil)
  (.cons (.ret (.cal "find_row" (.cons (.var 0) (.cons (.var 1) (.cons (.var 2) .nil)))))
  .nil))))
def RowAtOk (cal : Str → Call) : Prop := ∀ (w : Web) (a : Nat) (ps : List Nat), GWeb w → a < w.length → ps.length ≤ 10000 → cal "row_at" [.d (webD w), .d (natD a), .d (.tuple (natsD ps))] = .ok (.w (.d (optD (lead w a ps))), [some (.d (webD w)), some (.d (natD a)), some (.d (.tuple (natsD ps)))])
theorem row_at_ok (cal : Str → Call) (hn : NeedWeb cal) (hr : NeedRow cal) (hp : PathOk cal) (hf : FindOk cal) (w : Web) (a : Nat) (ps : List Nat) (g : GWeb w) (ha : a < w.length) (hl : ps.length ≤ 10000) :
    runDf ⟨3, 3, okF [false, false, false]⟩ (crow_at.den cal (okF [false, false, false])) [.d (webD w), .d (natD a), .d (.tuple (natsD ps))] = .ok (.w (.d (optD (lead w a ps))), [some (.d (webD w)), some (.d (natD a)), some (.d (.tuple (natsD ps)))]) := by
  have e1 := hn w g
  have e2 := hr w a ha
  have e3 := hp ps hl
  have e4 := hf w a ps g.closed ha
  simp [run_eq, crow_at, e1, e2, e3, e4, MEs.q, ME.q]
def creached : MSts := (.cons (.expr (.cal "need_web" (.cons (.var 0) .nil)))
  (.cons (.expr (.cal "need_row" (.cons (.var 0) (.cons (.var 1) .nil))))
  (.cons (.ret (.cal "find_reached" (.cons (.var 0) (.cons (.var 1) .nil))))
  .nil)))
def ReachedOk (cal : Str → Call) : Prop := ∀ (w : Web) (a : Nat), GWeb w → a < w.length → cal "reached" [.d (webD w), .d (natD a)] = .ok (.w (.ol (natsD (reach w a))), [some (.d (webD w)), some (.d (natD a))])
theorem reached_ok (cal : Str → Call) (hn : NeedWeb cal) (hr : NeedRow cal) (hf : ReachOk "find_reached" cal) (w : Web) (a : Nat) (g : GWeb w) (ha : a < w.length) :
    runDf ⟨2, 2, okF [false, false]⟩ (creached.den cal (okF [false, false])) [.d (webD w), .d (natD a)] = .ok (.w (.ol (natsD (reach w a))), [some (.d (webD w)), some (.d (natD a))]) := by
  have e1 := hn w g
  have e2 := hr w a ha
  have e3 := hf w a g.closed g.plen (by have := g.2.1; omega) ha
  simp [run_eq, creached, e1, e2, e3, MEs.q, ME.q]
def cfind_blanks : MSts := (.cons (.ret (.bi .sset (.cons (.comp [2, 3] (.name 3) (.seq (.cal "find_reached" (.cons (.var 0) (.cons (.var 1) .nil)))) (blkC 0 3) (blkE 0 3)) .nil)))
  .nil)
def FindBlOk (cal : Str → Call) : Prop := ∀ (w : Web) (a : Nat), GWeb w → a < w.length → cal "find_blanks" [.d (webD w), .d (natD a)] = .ok (.w (.ol (strsL (blanksL w a))), [some (.d (webD w)), some (.d (natD a))])
theorem find_blanks_ok (cal : Str → Call) (hf : ReachOk "find_reached" cal) (w : Web) (a : Nat) (g : GWeb w) (ha : a < w.length) :
    runDf ⟨2, 4, okF [false, false]⟩ (cfind_blanks.den cal (okF [false, false])) [.d (webD w), .d (natD a)] = .ok (.w (.ol (strsL (blanksL w a))), [some (.d (webD w)), some (.d (natD a))]) := by
  have e3 := hf w a g.closed g.plen (by have := g.2.1; omega) ha
  have l4 := reach_len g.closed ha
  have l5 := g.2.1
  have loop := names_loop cal w [2, 3] 0 3 [some (.d (webD w)), some (.d (natD a)), none, none] (fun x => by simp) (fun x => by simp) (fun x => by simp) (fun x => by simp [wipeE]) (fun x => by simp [freeSlot]) (reach w a) [] (reach_lt g.closed ha) (by simp; omega)
  have l3 := names_len w (reach w a)
  have es := s_sset (l := namesOf w (reach w a)) (by omega)
  have n0 : strsL [] = [] := rfl
  rw [n0] at loop
  simp only [List.nil_append] at loop
  simp [run_eq, cfind_blanks, List.replicate, e3, freeSlot, wipeE, MEs.q, ME.q]
  rw [loop]
  simp only [rb_ok, kCm2_ap]
  simp [backE, es, blanksL, MEs.q, ME.q]
def cblanks_of : MSts := (.cons (.expr (.cal "need_web" (.cons (.var 0) .nil)))
  (.cons (.expr (.cal "need_row" (.cons (.var 0) (.cons (.var 1) .nil))))
  (.cons (.ret (.cal "find_blanks" (.cons (.var 0) (.cons (.var 1) .nil))))
  .nil)))
def BlanksOk (cal : Str → Call) : Prop := ∀ (w : Web) (a : Nat), GWeb w → a < w.length → cal "blanks_of" [.d (webD w), .d (natD a)] = .ok (.w (.ol (strsL (blanksL w a))), [some (.d (webD w)), some (.d (natD a))])
theorem blanks_of_ok (cal : Str → Call) (hn : NeedWeb cal) (hr : NeedRow cal) (hf : FindBlOk cal) (w : Web) (a : Nat) (g : GWeb w) (ha : a < w.length) :
    runDf ⟨2, 2, okF [false, false]⟩ (cblanks_of.den cal (okF [false, false])) [.d (webD w), .d (natD a)] = .ok (.w (.ol (strsL (blanksL w a))), [some (.d (webD w)), some (.d (natD a))]) := by
  have e1 := hn w g
  have e2 := hr w a ha
  have e3 := hf w a g ha
  simp [run_eq, cblanks_of, e1, e2, e3, MEs.q, ME.q]
end Rf
end

section
set_option Elab.async false
set_option linter.all false
set_option maxRecDepth 10000
/-! The law of rows at paths: the paths that are tried. -/
namespace Rf
open PySem
theorem cut_last {α : Type} (xs : List α) (x : α) : cutG (xs ++ [x]) (some (-1)) none = [x] := by
  unfold cutG
  have e : HT.sIx (xs ++ [x]).length 0 (some (-1)) = xs.length := by
    show (if (-1 : Int) < 0 then (-1 + ((xs ++ [x]).length : Int)).toNat else min (-1 : Int).toNat (xs ++ [x]).length) = _
    rw [if_pos (by omega), List.length_append, List.length_singleton]; omega
  rw [e, HT.sIx_none, List.drop_left, List.length_append, List.length_singleton, List.take_of_length_le (by simp)]
theorem lead_lt {w : Web} (hc : Closed w) : ∀ (ps : List Nat) {a b : Nat}, a < w.length → lead w a ps = some b → b < w.length
  | [], a, b, ha, e => by cases e; exact ha
  | p :: ps, a, b, ha, e => by
    unfold lead at e
    split at e
    · rename_i c hc'
      exact lead_lt hc ps (hc a c (List.mem_of_getElem? hc')) e
    · cases e
theorem opt_repr {w : Web} (g : GWeb w) {a : Nat} (ha : a < w.length) (ps : List Nat) : Bi.sem .repr [.d (optD (lead w a ps))] = some (.d (.str (PyData.shown (optD (lead w a ps))))) := by
  have sz : (11000000 : Nat) ≤ SZ := by decide
  have gl := g.2.1
  cases e : lead w a ps with
  | none => exact none_fine'.repr (by omega) (by omega)
  | some b =>
    have := lead_lt g.closed ps ha e
    exact (fine_int (i := (b : Int)) (by omega) (by omega)).repr (by omega) (by omega)
def tkE : ME := .ife (.tst (.op .gt (.cal "_law_take" (.cons (.var 1) (.cons (.dat (.int (30))) .nil))) (.dat (.int (0))))) (.cal "_law_take" (.cons (.var 1) (.cons (.bi .max (.cons (.dat (.int (1))) (.cons (.var 10) .nil))) .nil))) (.cal "_law_take" (.cons (.var 1) (.cons (.dat (.int (6))) .nil)))
def placeB : MSts := (.cons (.set 10 (.bi .len (.cons (.cal "_law_parts_of" (.cons (.ix (.var 3) (.var 8)) .nil)) .nil)))
  (.cons (.expr (.app (.var 7) tkE))
  (.cons (.set 8 (.ife (.tst (.op .isNot (.var 8) (.dat .none))) (.cal "_law_lead" (.cons (.var 3) (.cons (.var 8) (.cons (.sl (.var 7) (.some (.neg (.dat (.int (1))))) .none) .nil)))) (.dat .none)))
  (.cons (.ife (.tst (.op .is (.var 8) (.dat .none))) (.cons (.set 8 (.dat (.int (0))))
  .nil) .nil)
  .nil))))
theorem take_elt (cal : Str → Call) (ht : TakeOk cal) (cells : List Int) (a v : Int) (h0 : 0 ≤ a) (h1 : a + 2 ≤ 1000000) (hv : 0 ≤ v) (m : Nat) (hm : m ≤ 1000) (s0 s2 s3 s4 s5 s6 s7 s8 s9 s11 s12 s13 s14 s15 : Option W) :
    ∃ (p : Nat) (a' v' : Int), a ≤ a' ∧ a' ≤ a + 2 ∧ 0 ≤ v' ∧ ME.den cal tkE [s0, some (penW cells a v), s2, s3, s4, s5, s6, s7, s8, s9, some (.d (natD m)), s11, s12, s13, s14, s15] =
      .ok (.w (.d (natD p)), [s0, some (penW cells a' v'), s2, s3, s4, s5, s6, s7, s8, s9, some (.d (natD m)), s11, s12, s13, s14, s15]) := by
  obtain ⟨b, a1, v1, b0, b1, p1, p2, p3, e1⟩ := ht cells a v 30 h0 (by omega) hv (by decide) (by decide)
  by_cases hb : 0 < b
  · obtain ⟨c, a2, v2, c0, c1, q1, q2, q3, e2⟩ := ht cells a1 v1 (max 1 m : Nat) (by omega) (by omega) p3 (by omega) (by omega)
    obtain ⟨p, rfl⟩ : ∃ p : Nat, c = (p : Int) := ⟨c.toNat, by omega⟩
    have em : Bi.sem .max [.d (.int 1), .d (natD m)] = some (.d (.int ((max 1 m : Nat) : Int))) := s_max 1 m
    refine ⟨p, a2, v2, by omega, by omega, q3, ?_⟩
    have np : PyData.int (p : Int) = natD p := rfl
    rw [np] at e2
    simp [tkE, e1, hb, em, e2, MEs.q, ME.q]
  · obtain ⟨c, a2, v2, c0, c1, q1, q2, q3, e2⟩ := ht cells a1 v1 6 (by omega) (by omega) p3 (by omega) (by omega)
    obtain ⟨p, rfl⟩ : ∃ p : Nat, c = (p : Int) := ⟨c.toNat, by omega⟩
    refine ⟨p, a2, v2, by omega, by omega, q3, ?_⟩
    have np : PyData.int (p : Int) = natD p := rfl
    rw [np] at e2
    simp [tkE, e1, hb, e2, MEs.q, ME.q]
theorem place_ok (cal : Str → Call) (ht : TakeOk cal) (hp : PartsOk "_law_parts_of" cal) (hle : LeadOk cal) (cells : List Int) (w : Web) (g : GWeb w) (s0 s2 s4 s5 s6 s9 s10 s11 s12 s13 s14 s15 : Option W) (path : List Nat) (hl : path.length ≤ 1000) (r : Nat) (hr : r < w.length) (a v : Int) (h0 : 0 ≤ a) (h1 : a + 2 ≤ 1000000) (hv : 0 ≤ v) :
    ∃ (p r' : Nat) (a' v' : Int) (t10 : Option W), r' < w.length ∧ a ≤ a' ∧ a' ≤ a + 2 ∧ 0 ≤ v' ∧
      placeB.den cal (okF [false]) [s0, some (penW cells a v), s2, some (.d (webD w)), s4, s5, s6, some (.ol (natsD path)), some (.d (natD r)), s9, s10, s11, s12, s13, s14, s15] =
        .ok (.nx, [s0, some (penW cells a' v'), s2, some (.d (webD w)), s4, s5, s6, some (.ol (natsD (path ++ [p]))), some (.d (natD r')), s9, t10, s11, s12, s13, s14, s15]) := by
  have e1 := ix_w hr
  have e2 := hp w[r]
  have e3 := len_t (rparts w[r])
  have hm : (rparts w[r]).length ≤ 1000 := by have := g.plen r; rwa [parts_at hr] at this
  obtain ⟨p, a', v', p1, p2, p3, e4⟩ := take_elt cal ht cells a v h0 h1 hv (rparts w[r]).length hm s0 s2 (some (.d (webD w))) s4 s5 s6 (some (.ol (natsD path))) (some (.d (natD r))) s9 s11 s12 s13 s14 s15
  have hz : path.length < SZ := by
    have : (1000 : Nat) < SZ := by decide
    omega
  have e5 := hle w r [p] g.closed hr
  have ec := cut_last (natsD path) (natD p)
  have wl := g.1
  have S1 : MSt.den cal (okF [false]) (.set 10 (.bi .len (.cons (.cal "_law_parts_of" (.cons (.ix (.var 3) (.var 8)) .nil)) .nil))) [s0, some (penW cells a v), s2, some (.d (webD w)), s4, s5, s6, some (.ol (natsD path)), some (.d (natD r)), s9, s10, s11, s12, s13, s14, s15] =
      .ok (.nx, [s0, some (penW cells a v), s2, some (.d (webD w)), s4, s5, s6, some (.ol (natsD path)), some (.d (natD r)), s9, some (.d (natD (rparts w[r]).length)), s11, s12, s13, s14, s15]) := by
    unfold webD
    simp [e1, e2, e3, MEs.q, ME.q]
    rfl
  have S2 : MSt.den cal (okF [false]) (.expr (.app (.var 7) tkE)) [s0, some (penW cells a v), s2, some (.d (webD w)), s4, s5, s6, some (.ol (natsD path)), some (.d (natD r)), s9, some (.d (natD (rparts w[r]).length)), s11, s12, s13, s14, s15] =
      .ok (.nx, [s0, some (penW cells a' v'), s2, some (.d (webD w)), s4, s5, s6, some (.ol (natsD (path ++ [p]))), some (.d (natD r)), s9, some (.d (natD (rparts w[r]).length)), s11, s12, s13, s14, s15]) := by
    rw [natsD_append]
    simp [e4, hz, MEs.q, ME.q]
  have S3 : MSt.den cal (okF [false]) (.set 8 (.ife (.tst (.op .isNot (.var 8) (.dat .none))) (.cal "_law_lead" (.cons (.var 3) (.cons (.var 8) (.cons (.sl (.var 7) (.some (.neg (.dat (.int (1))))) .none) .nil)))) (.dat .none))) [s0, some (penW cells a' v'), s2, some (.d (webD w)), s4, s5, s6, some (.ol (natsD (path ++ [p]))), some (.d (natD r)), s9, some (.d (natD (rparts w[r]).length)), s11, s12, s13, s14, s15] =
      .ok (.nx, [s0, some (penW cells a' v'), s2, some (.d (webD w)), s4, s5, s6, some (.ol (natsD (path ++ [p]))), some (.d (optD (lead w r [p]))), s9, some (.d (natD (rparts w[r]).length)), s11, s12, s13, s14, s15]) := by
    have en : BOp.sem .isNot (natD r) .none = some (.d (.bool true)) := rfl
    rw [natsD_append]
    have e5' : cal "_law_lead" [.d (webD w), .d (natD r), .ol [natD p]] = .ok (.w (.d (optD (lead w r [p]))), [some (.d (webD w)), none, some (.d (.list [natD p]))]) := e5
    simp [en, ec, e5', MEs.q, ME.q, MP.q]
  cases hd : lead w r [p] with
  | none =>
    rw [hd] at S3
    refine ⟨p, 0, a', v', some (.d (natD (rparts w[r]).length)), wl, p1, p2, p3, ?_⟩
    unfold placeB
    rw [sts_cons, S1, rb_ok, kSeq_nx, sts_cons, S2, rb_ok, kSeq_nx, sts_cons, S3, rb_ok, kSeq_nx]
    simp [optD, isN, MEs.q, ME.q, natD]
  | some b =>
    rw [hd] at S3
    refine ⟨p, b, a', v', some (.d (natD (rparts w[r]).length)), lead_lt g.closed _ hr hd, p1, p2, p3, ?_⟩
    unfold placeB
    rw [sts_cons, S1, rb_ok, kSeq_nx, sts_cons, S2, rb_ok, kSeq_nx, sts_cons, S3, rb_ok, kSeq_nx]
    simp [optD, isN, MEs.q, ME.q, natD]
theorem places (cal : Str → Call) (ht : TakeOk cal) (hp : PartsOk "_law_parts_of" cal) (hle : LeadOk cal) (cells : List Int) (w : Web) (g : GWeb w) (s0 s2 s4 s5 s6 s11 s12 s13 s14 s15 : Option W) : ∀ (xs : List PyData) (path : List Nat) (r : Nat) (s9 s10 : Option W) (a v : Int), path.length + xs.length ≤ 1000 → r < w.length → 0 ≤ a → a + 2 * xs.length ≤ 1000000 → 0 ≤ v →
    ∃ (path' : List Nat) (r' : Nat) (a' v' : Int) (t9 t10 : Option W), path'.length = path.length + xs.length ∧ a ≤ a' ∧ a' ≤ a + 2 * xs.length ∧ 0 ≤ v' ∧
      forL (Tg.put (okF [false]) (.name 9)) (placeB.den cal (okF [false])) xs [s0, some (penW cells a v), s2, some (.d (webD w)), s4, s5, s6, some (.ol (natsD path)), some (.d (natD r)), s9, s10, s11, s12, s13, s14, s15] =
        .ok (.nx, [s0, some (penW cells a' v'), s2, some (.d (webD w)), s4, s5, s6, some (.ol (natsD path')), some (.d (natD r')), t9, t10, s11, s12, s13, s14, s15])
  | [], path, r, s9, s10, a, v, hl, hr, h0, h1, hv => ⟨path, r, a, v, s9, s10, rfl, by omega, by simp, hv, for_nil⟩
  | x :: xs, path, r, s9, s10, a, v, hl, hr, h0, h1, hv => by
    simp only [List.length_cons] at h1 hl
    obtain ⟨p, r1, a1, v1, t10, hr1, p1, p2, p3, e1⟩ := place_ok cal ht hp hle cells w g s0 s2 s4 s5 s6 (some (.d x)) s10 s11 s12 s13 s14 s15 path (by omega) r hr a v h0 (by omega) hv
    obtain ⟨path', r', a', v', u9, u10, l, q1, q2, q3, e2⟩ := places cal ht hp hle cells w g s0 s2 s4 s5 s6 s11 s12 s13 s14 s15 xs (path ++ [p]) r1 (some (.d x)) t10 a1 v1 (by simp; omega) hr1 (by omega) (by omega) p3
    refine ⟨path', r', a', v', u9, u10, by rw [l]; simp; omega, by omega, by simp only [List.length_cons]; omega, q3, ?_⟩
    have tp : Tg.put (okF [false]) (.name 9) x [s0, some (penW cells a v), s2, some (.d (webD w)), s4, s5, s6, some (.ol (natsD path)), some (.d (natD r)), s9, s10, s11, s12, s13, s14, s15] = .ok [s0, some (penW cells a v), s2, some (.d (webD w)), s4, s5, s6, some (.ol (natsD path)), some (.d (natD r)), some (.d x), s10, s11, s12, s13, s14, s15] := by simp
    rw [for_cons, tp, rb_ok, kFor_ap, e1, rb_ok, kFor2_nx, e2]
def stepB : MSts := (.cons (.par [7, 8] (.cons (.lst .nil) (.cons (.var 4) .nil)))
  (.cons (.loop (.name 9) (.rng1 (.cal "_law_take" (.cons (.var 1) (.cons (.dat (.int (40))) .nil)))) placeB)
  (.cons (.ife (.tst (.op .ne (.bi .repr (.cons (.cal "row_at" (.cons (.var 3) (.cons (.var 4) (.cons (.bi .tuple (.cons (.var 7) .nil)) .nil)))) .nil)) (.bi .repr (.cons (.cal "_law_lead" (.cons (.var 3) (.cons (.var 4) (.cons (.var 7) .nil)))) .nil)))) (.cons (.ret (.dat (.bool false)))
  .nil) .nil)
  .nil)))
theorem step_ok (cal : Str → Call) (ht : TakeOk cal) (hp : PartsOk "_law_parts_of" cal) (hle : LeadOk cal) (hra : RowAtOk cal) (cells : List Int) (w : Web) (g : GWeb w) (n : Nat) (hn : n < w.length) (s0 s2 s5 s6 s7 s8 s9 s10 s11 s12 s13 s14 s15 : Option W) (a v : Int) (h0 : 0 ≤ a) (h1 : a + 100 ≤ 1000000) (hv : 0 ≤ v) :
    ∃ (a' v' : Int) (t7 t9 t10 : Option W) (x8 : PyData), a ≤ a' ∧ a' ≤ a + 100 ∧ 0 ≤ v' ∧
      stepB.den cal (okF [false]) [s0, some (penW cells a v), s2, some (.d (webD w)), some (.d (natD n)), s5, s6, s7, s8, s9, s10, s11, s12, s13, s14, s15] =
        .ok (.nx, [s0, some (penW cells a' v'), s2, some (.d (webD w)), some (.d (natD n)), s5, s6, t7, some (.d x8), t9, t10, s11, s12, s13, s14, s15]) := by
  obtain ⟨b, a1, v1, b0, b1, p1, p2, p3, e1⟩ := ht cells a v 40 h0 (by omega) hv (by decide) (by decide)
  obtain ⟨bn, rfl⟩ : ∃ bn : Nat, b = (bn : Int) := ⟨b.toNat, by omega⟩
  obtain ⟨path, r', a2, v2, t9, t10, l, q1, q2, q3, e2⟩ := places cal ht hp hle cells w g s0 s2 (some (.d (natD n))) s5 s6 s11 s12 s13 s14 s15 (rangeD 0 (bn : Int)) [] n s9 s10 a1 v1 (by rw [rng_len]; simp; omega) hn (by omega) (by rw [rng_len]; omega) p3
  rw [rng_len] at l q2
  have l' : path.length = bn := by simpa using l
  have e3 := hra w n path g hn (by omega)
  have e4 := hle w n path g.closed hn
  have e5 := opt_repr g hn path
  have gr : ∀ e : Env, rngR (.w (.d (.int (bn : Int))), e) = .ok (([], rangeD 0 (bn : Int)), e) := fun e => rng_small (by omega)
  have z0 : (0 : Nat) ≤ SZ := Nat.zero_le _
  refine ⟨a2, v2, some (.d (.list (natsD path))), t9, t10, natD r', by omega, by omega, q3, ?_⟩
  have S1 : MSt.den cal (okF [false]) (.par [7, 8] (.cons (.lst .nil) (.cons (.var 4) .nil))) [s0, some (penW cells a v), s2, some (.d (webD w)), some (.d (natD n)), s5, s6, s7, s8, s9, s10, s11, s12, s13, s14, s15] =
      .ok (.nx, [s0, some (penW cells a v), s2, some (.d (webD w)), some (.d (natD n)), s5, s6, some (.ol []), some (.d (natD n)), s9, s10, s11, s12, s13, s14, s15]) := by
    simp [z0, MEs.q, ME.q]
  have S2 : MSt.den cal (okF [false]) (.loop (.name 9) (.rng1 (.cal "_law_take" (.cons (.var 1) (.cons (.dat (.int (40))) .nil)))) placeB) [s0, some (penW cells a v), s2, some (.d (webD w)), some (.d (natD n)), s5, s6, some (.ol []), some (.d (natD n)), s9, s10, s11, s12, s13, s14, s15] =
      .ok (.nx, [s0, some (penW cells a2 v2), s2, some (.d (webD w)), some (.d (natD n)), s5, s6, some (.ol (natsD path)), some (.d (natD r')), t9, t10, s11, s12, s13, s14, s15]) := by
    simp [e1, gr, -rngR_ap, MEs.q, ME.q]
    exact e2
  have S3 : MSt.den cal (okF [false]) (.ife (.tst (.op .ne (.bi .repr (.cons (.cal "row_at" (.cons (.var 3) (.cons (.var 4) (.cons (.bi .tuple (.cons (.var 7) .nil)) .nil)))) .nil)) (.bi .repr (.cons (.cal "_law_lead" (.cons (.var 3) (.cons (.var 4) (.cons (.var 7) .nil)))) .nil)))) (.cons (.ret (.dat (.bool false)))
  .nil) .nil) [s0, some (penW cells a2 v2), s2, some (.d (webD w)), some (.d (natD n)), s5, s6, some (.ol (natsD path)), some (.d (natD r')), t9, t10, s11, s12, s13, s14, s15] =
      .ok (.nx, [s0, some (penW cells a2 v2), s2, some (.d (webD w)), some (.d (natD n)), s5, s6, some (.d (.list (natsD path))), some (.d (natD r')), t9, t10, s11, s12, s13, s14, s15]) := by
    simp [e3, e4, e5, s_neS', MEs.q, ME.q]
  unfold stepB
  rw [sts_cons, S1, rb_ok, kSeq_nx, sts_cons, S2, rb_ok, kSeq_nx, sts_cons, S3, rb_ok, kSeq_nx, sts_nil]
theorem steps (cal : Str → Call) (ht : TakeOk cal) (hp : PartsOk "_law_parts_of" cal) (hle : LeadOk cal) (hra : RowAtOk cal) (cells : List Int) (w : Web) (g : GWeb w) (n : Nat) (hn : n < w.length) (s0 s2 s5 s11 s12 s13 s14 s15 : Option W) : ∀ (xs : List PyData) (s6 s7 s8 s9 s10 : Option W) (a v : Int), 0 ≤ a → a + 100 * xs.length ≤ 1000000 → 0 ≤ v →
    ∃ (a' v' : Int) (t6 t7 t8 t9 t10 : Option W), (Fr s8 → Fr t8) ∧ a ≤ a' ∧ a' ≤ a + 100 * xs.length ∧ 0 ≤ v' ∧
      forL (Tg.put (okF [false]) (.name 6)) (stepB.den cal (okF [false])) xs [s0, some (penW cells a v), s2, some (.d (webD w)), some (.d (natD n)), s5, s6, s7, s8, s9, s10, s11, s12, s13, s14, s15] =
        .ok (.nx, [s0, some (penW cells a' v'), s2, some (.d (webD w)), some (.d (natD n)), s5, t6, t7, t8, t9, t10, s11, s12, s13, s14, s15])
  | [], s6, s7, s8, s9, s10, a, v, h0, h1, hv => ⟨a, v, s6, s7, s8, s9, s10, id, by omega, by simp, hv, for_nil⟩
  | x :: xs, s6, s7, s8, s9, s10, a, v, h0, h1, hv => by
    simp only [List.length_cons] at h1
    obtain ⟨a1, v1, t7, t9, t10, x8, p1, p2, p3, e1⟩ := step_ok cal ht hp hle hra cells w g n hn s0 s2 s5 (some (.d x)) s7 s8 s9 s10 s11 s12 s13 s14 s15 a v h0 (by omega) hv
    obtain ⟨a', v', u6, u7, u8, u9, u10, f, q1, q2, q3, e2⟩ := steps cal ht hp hle hra cells w g n hn s0 s2 s5 s11 s12 s13 s14 s15 xs (some (.d x)) t7 (some (.d x8)) t9 t10 a1 v1 (by omega) (by omega) p3
    refine ⟨a', v', u6, u7, u8, u9, u10, fun _ => f .d, by omega, by simp only [List.length_cons]; omega, q3, ?_⟩
    have tp : Tg.put (okF [false]) (.name 6) x [s0, some (penW cells a v), s2, some (.d (webD w)), some (.d (natD n)), s5, s6, s7, s8, s9, s10, s11, s12, s13, s14, s15] = .ok [s0, some (penW cells a v), s2, some (.d (webD w)), some (.d (natD n)), s5, some (.d x), s7, s8, s9, s10, s11, s12, s13, s14, s15] := by simp
    rw [for_cons, tp, rb_ok, kFor_ap, e1, rb_ok, kFor2_nx, e2]
end Rf
end

section
set_option Elab.async false
set_option linter.all false
set_option maxRecDepth 10000
/-! The law of rows at paths: a turn. -/
namespace Rf
open PySem
theorem Fr.free14 {o : Option W} (h : Fr o) (s0 s1 s2 s3 s4 s5 s6 s7 s9 s10 s11 s12 s13 : Option W) (s15 : Option W) : freeSlot [s0, s1, s2, s3, s4, s5, s6, s7, o, s9, s10, s11, s12, s13, none, s15] 8 = true ∧ freeSlot [s0, s1, s2, s3, s4, s5, s6, s7, o, s9, s10, s11, s12, s13, none, s15] 14 = true := by
  rcases h with rfl | ⟨x, rfl⟩ <;> exact ⟨rfl, rfl⟩
def ifF (t : MT) : MSt := .ife t (.cons (.ret (.dat (.bool false))) .nil) .nil
def turnB2 : MSts := (.cons (.set 3 (.cal "_law_drawn_web" (.cons (.cal "_law_anew" (.cons (.var 1) .nil)) (.cons (.cal "_law_one" (.cons (.var 1) (.cons (.lst (.cons (.dat (.int (1))) (.cons (.dat (.int (4))) (.cons (.dat (.int (9))) (.cons (.dat (.int (30))) .nil))))) .nil))) (.cons (.dat (.int (7))) (.cons (.cal "_law_take" (.cons (.var 1) (.cons (.dat (.int (6))) .nil))) .nil))))))
  (.cons (.par [4, 5] (.cons (.cal "_law_take" (.cons (.var 1) (.cons (.bi .len (.cons (.var 3) .nil)) .nil))) (.cons (.bi .repr (.cons (.var 3) .nil)) .nil)))
  (.cons (.loop (.name 6) (.rng1 (.dat (.int (6)))) stepB)
  (.cons (.set 11 (.cal "reached" (.cons (.var 3) (.cons (.var 4) .nil))))
  (.cons (ifF (.tst (.op .ne (.bi .repr (.cons (.var 11) .nil)) (.bi .repr (.cons (.cal "_law_reach" (.cons (.var 3) (.cons (.var 4) .nil))) .nil)))))
  (.cons (.set 12 (.bi .sset (.cons (.compo [14, 8] (.name 8) 11 (blkC 3 8) (blkE 3 8)) .nil)))
  (.cons (.expr (.app (.var 11) (.dat .none)))
  (.cons (.set 13 (.cal "blanks_of" (.cons (.var 3) (.cons (.var 4) .nil))))
  (.cons (ifF (.alt (.tst (.op .ne (.bi .repr (.cons (.var 13) .nil)) (.bi .repr (.cons (.var 12) .nil)))) (.tst (.op .ne (.bi .repr (.cons (.cal "reached" (.cons (.var 3) (.cons (.var 4) .nil))) .nil)) (.bi .repr (.cons (.cal "_law_reach" (.cons (.var 3) (.cons (.var 4) .nil))) .nil))))))
  (.cons (.expr (.app (.var 13) (.dat .none)))
  (.cons (ifF (.alt (.tst (.op .ne (.bi .repr (.cons (.cal "blanks_of" (.cons (.var 3) (.cons (.var 4) .nil))) .nil)) (.bi .repr (.cons (.var 12) .nil)))) (.tst (.op .ne (.bi .repr (.cons (.var 3) .nil)) (.var 5)))))
  .nil)))))))))))
theorem turn2_ok (cal : Str → Call) (ht : TakeOk cal) (ho : OneOk cal) (han : AnewOk cal) (hd : DrawnT cal) (hp : PartsOk "_law_parts_of" cal) (hle : LeadOk cal) (hra : RowAtOk cal) (hre : ReachedOk cal) (hlr : ReachOk "_law_reach" cal) (hbl : BlanksOk cal) (cells : List Int)
    (s0 s2 s3 s4 s5 s6 s7 s8 s9 s10 s11 s12 s13 : Option W) (hf8 : Fr s8) (a v : Int) (h0 : 0 ≤ a) (h1 : a + 2000 ≤ 1000000) (hv : 0 ≤ v) :
    ∃ (a' v' : Int) (t3 t4 t5 t6 t7 t8 t9 t10 t11 t12 t13 : Option W), Fr t8 ∧ a ≤ a' ∧ a' ≤ a + 2000 ∧ 0 ≤ v' ∧
      turnB2.den cal (okF [false]) [s0, some (penW cells a v), s2, s3, s4, s5, s6, s7, s8, s9, s10, s11, s12, s13, none, none] =
        .ok (.nx, [s0, some (penW cells a' v'), s2, t3, t4, t5, t6, t7, t8, t9, t10, t11, t12, t13, none, none]) := by
  have e1 := han cells a v
  obtain ⟨x, a1, v1, hx, p1, p2, p3, e2⟩ := ho cells a 0 [.int 1, .int 4, .int 9, .int 30] (.ol [.int 1, .int 4, .int 9, .int 30]) (.inr (.inl rfl)) h0 (by omega) (by omega) (by simp) (by simp)
  obtain ⟨m, rfl, m1, m2⟩ : ∃ m : Nat, x = natD m ∧ 1 ≤ m ∧ m ≤ 30 := by
    simp at hx
    rcases hx with rfl | rfl | rfl | rfl
    · exact ⟨1, rfl, by decide, by decide⟩
    · exact ⟨4, rfl, by decide, by decide⟩
    · exact ⟨9, rfl, by decide, by decide⟩
    · exact ⟨30, rfl, by decide, by decide⟩
  obtain ⟨b, a2, v2, b0, b1, q1, q2, q3, e3⟩ := ht cells a1 v1 6 (by omega) (by omega) p3 (by decide) (by decide)
  obtain ⟨bn, rfl⟩ : ∃ bn : Nat, b = (bn : Int) := ⟨b.toNat, by omega⟩
  obtain ⟨w, a3, v3, wl, g, r1, r2, r3, e4⟩ := hd cells a2 v2 m 7 bn (by omega) (by omega) q3 m1 (by omega) (by omega) (by omega) (by omega)
  have e4' : cal "_law_drawn_web" [penW cells a2 v2, .d (natD m), .d (.int 7), .d (.int (bn : Int))] = .ok (.w (.d (webD w)), [some (penW cells a3 v3), some (.d (natD m)), some (.d (.int 7)), some (.d (.int (bn : Int)))]) := e4
  obtain ⟨c, a4, v4, c0, c1, u1, u2, u3, e5⟩ := ht cells a3 v3 (w.length : Int) (by omega) (by omega) r3 (by omega) (by omega)
  obtain ⟨n, rfl⟩ : ∃ n : Nat, c = (n : Int) := ⟨c.toNat, by omega⟩
  have hn : n < w.length := by omega
  have nn : PyData.int (n : Int) = natD n := rfl
  rw [nn] at e5
  have bl : Bi.sem .len [.d (webD w)] = some (.d (.int (w.length : Int))) := by show some (W.d (.int ((rowsD w).length : Nat))) = _; rw [rowsD_len]
  have rp := web_repr g
  have z4 : (4 : Nat) ≤ SZ := by decide
  obtain ⟨a5, v5, t6, t7, t8, t9, t10, f8, y1, y2, y3, e6⟩ := steps cal ht hp hle hra cells w g n hn s0 s2 (some (.d (.str (PyData.shown (webD w))))) s11 s12 s13 none none (rangeD 0 (6 : Nat)) s6 s7 s8 s9 s10 a4 v4 (by omega) (by rw [rng_len]; omega) u3
  rw [rng_len] at y2
  have ft8 := f8 hf8
  have c6 : ((6 : Nat) : Int) = 6 := rfl
  rw [c6] at e6
  have g6 : ∀ e : Env, rngR (.w (.d (.int (6 : Int))), e) = .ok (([], rangeD 0 6), e) := fun e => rng_small (j := 6) (by omega)
  have k1 := hre w n g hn
  have k2 := hlr w n g.closed g.plen (by have := g.2.1; omega) hn
  have k3 := hbl w n g hn
  have lr := (list_repr (reach_fine g hn) (by omega) (by omega)).1
  have lb := (list_repr (blanks_fine g hn) (by omega) (by omega)).1
  have l4 := reach_len g.closed hn
  have l5 := g.2.1
  have l3 := names_len w (reach w n)
  have es := s_sset (l := namesOf w (reach w n)) (by omega)
  have big : (1000 : Nat) < SZ := by decide
  have hz11 : (reach w n).length < SZ := by omega
  have lbl : (strsL (blanksL w n)).length ≤ 120 := by
    have p := (sortL_perm tLe (dd (namesOf w (reach w n)))).length_eq
    have l2 := dd_len (namesOf w (reach w n))
    have : (strsL (blanksL w n)).length = (blanksL w n).length := by simp [strsL]
    rw [this]; unfold blanksL; omega
  have hz13 : (strsL (blanksL w n)).length < SZ := by omega
  have S1 : MSt.den cal (okF [false]) (.set 3 (.cal "_law_drawn_web" (.cons (.cal "_law_anew" (.cons (.var 1) .nil)) (.cons (.cal "_law_one" (.cons (.var 1) (.cons (.lst (.cons (.dat (.int (1))) (.cons (.dat (.int (4))) (.cons (.dat (.int (9))) (.cons (.dat (.int (30))) .nil))))) .nil))) (.cons (.dat (.int (7))) (.cons (.cal "_law_take" (.cons (.var 1) (.cons (.dat (.int (6))) .nil))) .nil)))))) [s0, some (penW cells a v), s2, s3, s4, s5, s6, s7, s8, s9, s10, s11, s12, s13, none, none] =
      .ok (.nx, [s0, some (penW cells a3 v3), s2, some (.d (webD w)), s4, s5, s6, s7, s8, s9, s10, s11, s12, s13, none, none]) := by
    simp [e1, e2, e3, e4', z4, MEs.q, ME.q]
  have S2 : MSt.den cal (okF [false]) (.par [4, 5] (.cons (.cal "_law_take" (.cons (.var 1) (.cons (.bi .len (.cons (.var 3) .nil)) .nil))) (.cons (.bi .repr (.cons (.var 3) .nil)) .nil))) [s0, some (penW cells a3 v3), s2, some (.d (webD w)), s4, s5, s6, s7, s8, s9, s10, s11, s12, s13, none, none] =
      .ok (.nx, [s0, some (penW cells a4 v4), s2, some (.d (webD w)), some (.d (natD n)), some (.d (.str (PyData.shown (webD w)))), s6, s7, s8, s9, s10, s11, s12, s13, none, none]) := by
    simp [bl, e5, rp, MEs.q, ME.q]
  have S3 : MSt.den cal (okF [false]) (.loop (.name 6) (.rng1 (.dat (.int (6)))) stepB) [s0, some (penW cells a4 v4), s2, some (.d (webD w)), some (.d (natD n)), some (.d (.str (PyData.shown (webD w)))), s6, s7, s8, s9, s10, s11, s12, s13, none, none] =
      .ok (.nx, [s0, some (penW cells a5 v5), s2, some (.d (webD w)), some (.d (natD n)), some (.d (.str (PyData.shown (webD w)))), t6, t7, t8, t9, t10, s11, s12, s13, none, none]) := by
    simp [g6, -rngR_ap, MEs.q, ME.q]
    exact e6
  have S4 : MSt.den cal (okF [false]) (.set 11 (.cal "reached" (.cons (.var 3) (.cons (.var 4) .nil)))) [s0, some (penW cells a5 v5), s2, some (.d (webD w)), some (.d (natD n)), some (.d (.str (PyData.shown (webD w)))), t6, t7, t8, t9, t10, s11, s12, s13, none, none] =
      .ok (.nx, [s0, some (penW cells a5 v5), s2, some (.d (webD w)), some (.d (natD n)), some (.d (.str (PyData.shown (webD w)))), t6, t7, t8, t9, t10, some (.ol (natsD (reach w n))), s12, s13, none, none]) := by
    simp [k1, MEs.q, ME.q]
  have S5 : MSt.den cal (okF [false]) (ifF (.tst (.op .ne (.bi .repr (.cons (.var 11) .nil)) (.bi .repr (.cons (.cal "_law_reach" (.cons (.var 3) (.cons (.var 4) .nil))) .nil))))) [s0, some (penW cells a5 v5), s2, some (.d (webD w)), some (.d (natD n)), some (.d (.str (PyData.shown (webD w)))), t6, t7, t8, t9, t10, some (.ol (natsD (reach w n))), s12, s13, none, none] =
      .ok (.nx, [s0, some (penW cells a5 v5), s2, some (.d (webD w)), some (.d (natD n)), some (.d (.str (PyData.shown (webD w)))), t6, t7, t8, t9, t10, some (.ol (natsD (reach w n))), s12, s13, none, none]) := by
    unfold ifF
    simp [k2, lr, s_neS', MEs.q, ME.q]
  have loop := names_loop cal w [14, 8] 3 8 [s0, some (penW cells a5 v5), s2, some (.d (webD w)), some (.d (natD n)), some (.d (.str (PyData.shown (webD w)))), t6, t7, none, t9, t10, none, s12, s13, none, none] (fun x => by simp) (fun x => by simp) (fun x => by simp) (fun x => by simp [wipeE]) (fun x => by simp [freeSlot]) (reach w n) [] (reach_lt g.closed hn) (by simp; omega)
  have n0 : strsL [] = [] := rfl
  rw [n0] at loop
  simp only [List.nil_append] at loop
  have S6 : MSt.den cal (okF [false]) (.set 12 (.bi .sset (.cons (.compo [14, 8] (.name 8) 11 (blkC 3 8) (blkE 3 8)) .nil))) [s0, some (penW cells a5 v5), s2, some (.d (webD w)), some (.d (natD n)), some (.d (.str (PyData.shown (webD w)))), t6, t7, t8, t9, t10, some (.ol (natsD (reach w n))), s12, s13, none, none] =
      .ok (.nx, [s0, some (penW cells a5 v5), s2, some (.d (webD w)), some (.d (natD n)), some (.d (.str (PyData.shown (webD w)))), t6, t7, t8, t9, t10, some (.ol (natsD (reach w n))), some (.ol (strsL (blanksL w n))), s13, none, none]) := by
    have dc : ME.den cal (.compo [14, 8] (.name 8) 11 (blkC 3 8) (blkE 3 8)) [s0, some (penW cells a5 v5), s2, some (.d (webD w)), some (.d (natD n)), some (.d (.str (PyData.shown (webD w)))), t6, t7, t8, t9, t10, some (.ol (natsD (reach w n))), s12, s13, none, none] =
        .ok (.w (.ol (strsL (namesOf w (reach w n)))), [s0, some (penW cells a5 v5), s2, some (.d (webD w)), some (.d (natD n)), some (.d (.str (PyData.shown (webD w)))), t6, t7, t8, t9, t10, some (.ol (natsD (reach w n))), s12, s13, none, none]) := by
      rw [den_compo cal (xs := natsD (reach w n)) rfl]
      rcases ft8 with rfl | ⟨x8, rfl⟩
      · simp [freeSlot, wipeE]
        rw [loop]
        simp [kCmo, backE]
      · simp [freeSlot, wipeE]
        rw [loop]
        simp [kCmo, backE]
    simp [dc, es, MEs.q, ME.q]
    rfl
  have S7 : MSt.den cal (okF [false]) (.expr (.app (.var 11) (.dat .none))) [s0, some (penW cells a5 v5), s2, some (.d (webD w)), some (.d (natD n)), some (.d (.str (PyData.shown (webD w)))), t6, t7, t8, t9, t10, some (.ol (natsD (reach w n))), some (.ol (strsL (blanksL w n))), s13, none, none] =
      .ok (.nx, [s0, some (penW cells a5 v5), s2, some (.d (webD w)), some (.d (natD n)), some (.d (.str (PyData.shown (webD w)))), t6, t7, t8, t9, t10, some (.ol (natsD (reach w n) ++ [.none])), some (.ol (strsL (blanksL w n))), s13, none, none]) := by
    simp [hz11, MEs.q, ME.q]
  have S8 : MSt.den cal (okF [false]) (.set 13 (.cal "blanks_of" (.cons (.var 3) (.cons (.var 4) .nil)))) [s0, some (penW cells a5 v5), s2, some (.d (webD w)), some (.d (natD n)), some (.d (.str (PyData.shown (webD w)))), t6, t7, t8, t9, t10, some (.ol (natsD (reach w n) ++ [.none])), some (.ol (strsL (blanksL w n))), s13, none, none] =
      .ok (.nx, [s0, some (penW cells a5 v5), s2, some (.d (webD w)), some (.d (natD n)), some (.d (.str (PyData.shown (webD w)))), t6, t7, t8, t9, t10, some (.ol (natsD (reach w n) ++ [.none])), some (.ol (strsL (blanksL w n))), some (.ol (strsL (blanksL w n))), none, none]) := by
    simp [k3, MEs.q, ME.q]
  have S9 : MSt.den cal (okF [false]) (ifF (.alt (.tst (.op .ne (.bi .repr (.cons (.var 13) .nil)) (.bi .repr (.cons (.var 12) .nil)))) (.tst (.op .ne (.bi .repr (.cons (.cal "reached" (.cons (.var 3) (.cons (.var 4) .nil))) .nil)) (.bi .repr (.cons (.cal "_law_reach" (.cons (.var 3) (.cons (.var 4) .nil))) .nil)))))) [s0, some (penW cells a5 v5), s2, some (.d (webD w)), some (.d (natD n)), some (.d (.str (PyData.shown (webD w)))), t6, t7, t8, t9, t10, some (.ol (natsD (reach w n) ++ [.none])), some (.ol (strsL (blanksL w n))), some (.ol (strsL (blanksL w n))), none, none] =
      .ok (.nx, [s0, some (penW cells a5 v5), s2, some (.d (webD w)), some (.d (natD n)), some (.d (.str (PyData.shown (webD w)))), t6, t7, t8, t9, t10, some (.ol (natsD (reach w n) ++ [.none])), some (.ol (strsL (blanksL w n))), some (.ol (strsL (blanksL w n))), none, none]) := by
    unfold ifF
    simp [k1, k2, lr, lb, s_neS', MEs.q, ME.q]
  have S10 : MSt.den cal (okF [false]) (.expr (.app (.var 13) (.dat .none))) [s0, some (penW cells a5 v5), s2, some (.d (webD w)), some (.d (natD n)), some (.d (.str (PyData.shown (webD w)))), t6, t7, t8, t9, t10, some (.ol (natsD (reach w n) ++ [.none])), some (.ol (strsL (blanksL w n))), some (.ol (strsL (blanksL w n))), none, none] =
      .ok (.nx, [s0, some (penW cells a5 v5), s2, some (.d (webD w)), some (.d (natD n)), some (.d (.str (PyData.shown (webD w)))), t6, t7, t8, t9, t10, some (.ol (natsD (reach w n) ++ [.none])), some (.ol (strsL (blanksL w n))), some (.ol (strsL (blanksL w n) ++ [.none])), none, none]) := by
    simp [hz13, MEs.q, ME.q]
  have S11 : MSt.den cal (okF [false]) (ifF (.alt (.tst (.op .ne (.bi .repr (.cons (.cal "blanks_of" (.cons (.var 3) (.cons (.var 4) .nil))) .nil)) (.bi .repr (.cons (.var 12) .nil)))) (.tst (.op .ne (.bi .repr (.cons (.var 3) .nil)) (.var 5))))) [s0, some (penW cells a5 v5), s2, some (.d (webD w)), some (.d (natD n)), some (.d (.str (PyData.shown (webD w)))), t6, t7, t8, t9, t10, some (.ol (natsD (reach w n) ++ [.none])), some (.ol (strsL (blanksL w n))), some (.ol (strsL (blanksL w n) ++ [.none])), none, none] =
      .ok (.nx, [s0, some (penW cells a5 v5), s2, some (.d (webD w)), some (.d (natD n)), some (.d (.str (PyData.shown (webD w)))), t6, t7, t8, t9, t10, some (.ol (natsD (reach w n) ++ [.none])), some (.ol (strsL (blanksL w n))), some (.ol (strsL (blanksL w n) ++ [.none])), none, none]) := by
    unfold ifF
    simp [k3, lb, rp, s_neS', MEs.q, ME.q]
  refine ⟨a5, v5, some (.d (webD w)), some (.d (natD n)), some (.d (.str (PyData.shown (webD w)))), t6, t7, t8, t9, t10, some (.ol (natsD (reach w n) ++ [.none])), some (.ol (strsL (blanksL w n))), some (.ol (strsL (blanksL w n) ++ [.none])), ft8, by omega, by omega, y3, ?_⟩
  unfold turnB2
  rw [sts_cons, S1, rb_ok, kSeq_nx, sts_cons, S2, rb_ok, kSeq_nx, sts_cons, S3, rb_ok, kSeq_nx, sts_cons, S4, rb_ok, kSeq_nx, sts_cons, S5, rb_ok, kSeq_nx, sts_cons, S6, rb_ok, kSeq_nx, sts_cons, S7, rb_ok, kSeq_nx, sts_cons, S8, rb_ok, kSeq_nx, sts_cons, S9, rb_ok, kSeq_nx, sts_cons, S10, rb_ok, kSeq_nx, sts_cons, S11, rb_ok, kSeq_nx, sts_nil]
theorem turns2 (cal : Str → Call) (ht : TakeOk cal) (ho : OneOk cal) (han : AnewOk cal) (hd : DrawnT cal) (hp : PartsOk "_law_parts_of" cal) (hle : LeadOk cal) (hra : RowAtOk cal) (hre : ReachedOk cal) (hlr : ReachOk "_law_reach" cal) (hbl : BlanksOk cal) (cells : List Int) (s0 : Option W) :
    ∀ (xs : List PyData) (s2 s3 s4 s5 s6 s7 s8 s9 s10 s11 s12 s13 : Option W) (a v : Int), Fr s8 → 0 ≤ a → a + 2000 * xs.length ≤ 1000000 → 0 ≤ v →
    ∃ (a' v' : Int) (t2 t3 t4 t5 t6 t7 t8 t9 t10 t11 t12 t13 : Option W), a ≤ a' ∧ a' ≤ a + 2000 * xs.length ∧ 0 ≤ v' ∧
      forL (Tg.put (okF [false]) (.name 2)) (turnB2.den cal (okF [false])) xs [s0, some (penW cells a v), s2, s3, s4, s5, s6, s7, s8, s9, s10, s11, s12, s13, none, none] =
        .ok (.nx, [s0, some (penW cells a' v'), t2, t3, t4, t5, t6, t7, t8, t9, t10, t11, t12, t13, none, none])
  | [], s2, s3, s4, s5, s6, s7, s8, s9, s10, s11, s12, s13, a, v, hf, h0, h1, hv => ⟨a, v, s2, s3, s4, s5, s6, s7, s8, s9, s10, s11, s12, s13, by omega, by simp, hv, for_nil⟩
  | x :: xs, s2, s3, s4, s5, s6, s7, s8, s9, s10, s11, s12, s13, a, v, hf, h0, h1, hv => by
    simp only [List.length_cons] at h1
    obtain ⟨a1, v1, t3, t4, t5, t6, t7, t8, t9, t10, t11, t12, t13, f1, p1, p2, p3, e1⟩ := turn2_ok cal ht ho han hd hp hle hra hre hlr hbl cells s0 (some (.d x)) s3 s4 s5 s6 s7 s8 s9 s10 s11 s12 s13 hf a v h0 (by omega) hv
    obtain ⟨a', v', u2, u3, u4, u5, u6, u7, u8, u9, u10, u11, u12, u13, q1, q2, q3, e2⟩ := turns2 cal ht ho han hd hp hle hra hre hlr hbl cells s0 xs (some (.d x)) t3 t4 t5 t6 t7 t8 t9 t10 t11 t12 t13 a1 v1 f1 (by omega) (by omega) p3
    refine ⟨a', v', u2, u3, u4, u5, u6, u7, u8, u9, u10, u11, u12, u13, by omega, by simp only [List.length_cons]; omega, q3, ?_⟩
    have tp : Tg.put (okF [false]) (.name 2) x [s0, some (penW cells a v), s2, s3, s4, s5, s6, s7, s8, s9, s10, s11, s12, s13, none, none] = .ok [s0, some (penW cells a v), some (.d x), s3, s4, s5, s6, s7, s8, s9, s10, s11, s12, s13, none, none] := by simp
    rw [for_cons, tp, rb_ok, kFor_ap, e1, rb_ok, kFor2_nx, e2]
end Rf
end

section
set_option Elab.async false
set_option linter.all false
set_option maxRecDepth 10000
/-! The law of rows at paths: a ring, a long way. -/
namespace Rf
open PySem
theorem f_good : ("f" : Str) ∈ goodNames := by decide
def ringRow (m k : Nat) : Row := ("f", some [(k + 1) % m, k])
def ringW (m : Nat) : Web := (List.range m).map (ringRow m)
theorem ring_len (m : Nat) : (ringW m).length = m := by simp [ringW]
theorem ring_parts {m k : Nat} (h : k < m) : parts (ringW m) k = [(k + 1) % m, k] := by
  unfold parts ringW
  simp [h, ringRow, rparts]
theorem ring_good {m : Nat} (h1 : 1 ≤ m) (h2 : m ≤ 120) : GWeb (ringW m) := by
  refine ⟨by rw [ring_len]; exact h1, by rw [ring_len]; exact h2, ?_⟩
  rw [ring_len]
  intro r hr
  obtain ⟨k, hk, rfl⟩ := List.mem_map.mp hr
  have hk' := List.mem_range.mp hk
  refine ⟨f_good, fun p hp => ?_, show [(k + 1) % m, k].length ≤ 4 by simp⟩
  have hp' : p ∈ [(k + 1) % m, k] := hp
  rcases List.mem_cons.mp hp' with rfl | hp'
  · exact Nat.mod_lt _ (by omega)
  · rw [List.mem_singleton.mp hp']; exact hk'
theorem lead_cons {w : Web} (a p : Nat) (ps : List Nat) : lead w a (p :: ps) = match (parts w a)[p]? with
    | some b => lead w b ps
    | none => none := rfl
theorem lead_app {w : Web} : ∀ (ps qs : List Nat) (a : Nat), lead w a (ps ++ qs) = match lead w a ps with
    | some b => lead w b qs
    | none => none
  | [], qs, a => rfl
  | p :: ps, qs, a => by
    rw [List.cons_append, lead_cons, lead_cons]
    cases (parts w a)[p]? with
    | none => rfl
    | some b => exact lead_app ps qs b
theorem ring_zeros {m : Nat} : ∀ (n a : Nat), a < m → lead (ringW m) a (List.replicate n 0) = some ((a + n) % m)
  | 0, a, h => by rw [Nat.add_zero, Nat.mod_eq_of_lt h]; rfl
  | n + 1, a, h => by
    have e : (parts (ringW m) a)[0]? = some ((a + 1) % m) := by rw [ring_parts h]; rfl
    rw [List.replicate_succ]
    unfold lead
    rw [e]
    show lead (ringW m) ((a + 1) % m) (List.replicate n 0) = _
    rw [ring_zeros n _ (Nat.mod_lt _ (by omega)), Nat.mod_add_mod]
    congr 2; omega
def longP (n : Nat) : List Nat := List.replicate n 0 ++ [1, 0, 1]
theorem ring_long {m : Nat} (hm : 1 ≤ m) (n : Nat) : lead (ringW m) 0 (longP n) = some ((n + 1) % m) := by
  unfold longP
  rw [lead_app, ring_zeros n 0 (by omega)]
  have h1 : (0 + n) % m < m := Nat.mod_lt _ (by omega)
  have h2 : (0 + n + 1) % m < m := Nat.mod_lt _ (by omega)
  have e1 : (parts (ringW m) ((0 + n) % m))[1]? = some ((0 + n) % m) := by rw [ring_parts h1]; rfl
  have e2 : (parts (ringW m) ((0 + n) % m))[0]? = some ((0 + n + 1) % m) := by rw [ring_parts h1, Nat.mod_add_mod]; rfl
  have e3 : (parts (ringW m) ((0 + n + 1) % m))[1]? = some ((0 + n + 1) % m) := by rw [ring_parts h2]; rfl
  show lead (ringW m) ((0 + n) % m) [1, 0, 1] = _
  unfold lead
  rw [e1]
  show lead (ringW m) ((0 + n) % m) [0, 1] = _
  unfold lead
  rw [e2]
  show lead (ringW m) ((0 + n + 1) % m) [1] = _
  unfold lead
  rw [e3]
  show some ((0 + n + 1) % m) = _
  rw [Nat.zero_add]
theorem ring_off {m : Nat} (hm : 1 ≤ m) (n q : Nat) (hq : 2 ≤ q) : lead (ringW m) 0 (longP n ++ [q]) = none := by
  rw [lead_app, ring_long hm]
  show lead (ringW m) ((n + 1) % m) [q] = none
  have e : (parts (ringW m) ((n + 1) % m))[q]? = none := by
    rw [ring_parts (Nat.mod_lt _ (by omega))]
    exact List.getElem?_eq_none (by simpa using hq)
  unfold lead
  rw [e]
def oneW : Web := [("g", some [0])]
theorem one_good : GWeb oneW := ⟨by decide, by decide, fun r hr => by
  have : r = (("g" : Str), some [0]) := by simpa [oneW] using hr
  subst this
  exact ⟨g_good, (fun p hp => by have : p ∈ [0] := hp; rw [List.mem_singleton.mp this]; decide), by decide⟩⟩
theorem one_zeros : ∀ n : Nat, lead oneW 0 (List.replicate n 0) = some 0
  | 0 => rfl
  | n + 1 => by
    rw [List.replicate_succ]
    unfold lead
    show lead oneW 0 (List.replicate n 0) = some 0
    exact one_zeros n
theorem rep_zero : ∀ n : Nat, repL [PyData.int 0] (n : Int) = natsD (List.replicate n 0)
  | 0 => rfl
  | n + 1 => by
    have := rep_zero n
    unfold repL at this ⊢
    rw [Int.toNat_natCast] at this ⊢
    rw [List.replicate_succ, List.flatten_cons, this, List.replicate_succ]
    rfl
theorem mul_l {n : Nat} (h : n ≤ 1000) : BOp.sem .mul (.list [.int 0]) (.int (n : Int)) = some (.ol (natsD (List.replicate n 0))) := by
  have h1 : repOk 1 (n : Int) = true := by unfold repOk; simp; omega
  show (if repOk 1 (n : Int) then some (W.ol (repL [PyData.int 0] (n : Int))) else none) = _
  rw [h1, rep_zero]; rfl
theorem mul_t {n : Nat} (h : n ≤ 1000) : BOp.sem .mul (.tuple [.int 0]) (.int (n : Int)) = some (.d (.tuple (natsD (List.replicate n 0)))) := by
  have h1 : repOk 1 (n : Int) = true := by unfold repOk; simp; omega
  show (if repOk 1 (n : Int) then some (W.d (.tuple (repL [PyData.int 0] (n : Int)))) else none) = _
  rw [h1, rep_zero]; rfl
def ringE : ME := .tup (.cons (.dat (.str "f")) (.cons (.tup (.cons (.op .mod (.bi .int (.cons (.op .add (.var 15) (.dat (.int (1)))) .nil)) (.var 10)) (.cons (.var 15) .nil))) .nil))
theorem ring_loop (cal : Str → Call) (m : Nat) (hm : 1 ≤ m) (s0 s1 s2 s3 s4 s5 s6 s7 s8 s9 s11 s12 s13 : Option W) : ∀ (xs : List Nat) (acc : Web), acc.length + xs.length ≤ 1000 →
    compL [14, 15] (Tg.put (fun _ => true) (.name 15)) (MT.den cal .yes) (ME.den cal ringE) (natsD xs) [s0, s1, s2, s3, s4, s5, s6, s7, s8, s9, some (.d (natD m)), s11, s12, s13, none, none] (rowsD acc) =
      .ok (rowsD (acc ++ xs.map (ringRow m)), [s0, s1, s2, s3, s4, s5, s6, s7, s8, s9, some (.d (natD m)), s11, s12, s13, none, none])
  | [], acc, _ => by simp [comp_nil]
  | x :: xs, acc, h => by
    simp only [List.length_cons] at h
    have hz : acc.length < SZ := by
      have : (1000 : Nat) < SZ := by decide
      omega
    have z2 : (2 : Nat) ≤ SZ := by decide
    have e1 : BOp.sem .add (natD x) (.int 1) = some (.d (.int ((x + 1 : Nat) : Int))) := rfl
    have e2 : BOp.sem .mod (.int ((x + 1 : Nat) : Int)) (natD m) = some (.d (natD ((x + 1) % m))) := by
      show BOp.sem .mod (.int ((x + 1 : Nat) : Int)) (.int (m : Int)) = _
      rw [s_modI (by omega)]; exact congrArg (fun z => some (W.d (PyData.int z))) (Int.natCast_emod (x + 1) m).symm
    have e3 : Bi.sem .int [.d (.int ((x + 1 : Nat) : Int))] = some (.d (.int ((x + 1 : Nat) : Int))) := rfl
    have ih := ring_loop cal m hm s0 s1 s2 s3 s4 s5 s6 s7 s8 s9 s11 s12 s13 xs (acc ++ [ringRow m x]) (by simp; omega)
    have ea : rowsD (acc ++ [ringRow m x]) = rowsD acc ++ [.tuple [.str "f", .tuple [natD ((x + 1) % m), natD x]]] := by simp [rowsD, ringRow, rowD, partsD]
    rw [ea] at ih
    simp only [List.append_assoc, List.singleton_append] at ih
    have ee : ME.den cal ringE [s0, s1, s2, s3, s4, s5, s6, s7, s8, s9, some (.d (natD m)), s11, s12, s13, none, some (.d (natD x))] = .ok (.w (.d (.tuple [.str "f", .tuple [natD ((x + 1) % m), natD x]])), [s0, s1, s2, s3, s4, s5, s6, s7, s8, s9, some (.d (natD m)), s11, s12, s13, none, some (.d (natD x))]) := by
      simp only [Int.natCast_add, Int.natCast_one] at e1 e2 e3
      try simp at e2 e3
      simp [ringE, e1, e2, e3, z2, MEs.q, ME.q]
    have tp : Tg.put (fun _ => true) (.name 15) (natD x) [s0, s1, s2, s3, s4, s5, s6, s7, s8, s9, some (.d (natD m)), s11, s12, s13, none, none] = .ok [s0, s1, s2, s3, s4, s5, s6, s7, s8, s9, some (.d (natD m)), s11, s12, s13, none, some (.d (natD x))] := by simp
    rw [natsD_cons, comp_cons, tp, rb_ok, kCmp1_ap, denT_yes, rb_ok, kCmp2_ap, if_pos rfl, ee]
    simp [hz, freeSlot, wipeE]
    simpa using ih
end Rf
end

section
set_option Elab.async false
set_option linter.all false
set_option maxRecDepth 10000
/-! The law of rows at paths, the whole. -/
namespace Rf
open PySem
def e4C : MT := .alt (.tst (.op .ne (.cal "row_at" (.cons (.tup (.cons (.tup (.cons (.dat (.str "g")) (.cons (.tup (.cons (.dat (.int (0))) .nil)) .nil))) .nil)) (.cons (.dat (.int (0))) (.cons (.op .mul (.tup (.cons (.dat (.int (0))) .nil)) (.dat (.int (1000)))) .nil)))) (.dat (.int (0))))) (.tst (.op .isNot (.cal "row_at" (.cons (.var 3) (.cons (.dat (.int (0))) (.cons (.op .add (.var 7) (.tup (.cons (.op .pow (.dat (.int (10))) (.dat (.int (20)))) .nil))) .nil)))) (.dat .none)))
def e5C : ME := .both (.op .eq (.cal "row_at" (.cons (.var 3) (.cons (.dat (.int (0))) (.cons (.var 7) .nil)))) (.op .mod (.bi .int (.cons (.op .sub (.bi .len (.cons (.var 7) .nil)) (.dat (.int (2)))) .nil)) (.var 10))) (.op .is (.cal "row_at" (.cons (.var 3) (.cons (.dat (.int (0))) (.cons (.op .add (.var 7) (.tup (.cons (.dat (.int (2))) .nil))) .nil)))) (.dat .none))
def endB2 : MSts := (.cons (.set 10 (.op .add (.dat (.int (2))) (.cal "_law_take" (.cons (.var 1) (.cons (.dat (.int (30))) .nil)))))
  (.cons (.set 3 (.bi .tuple (.cons (.comp [14, 15] (.name 15) (.rng1 (.var 10)) .yes ringE) .nil)))
  (.cons (.set 7 (.bi .tuple (.cons (.op .add (.op .mul (.lst (.cons (.dat (.int (0))) .nil)) (.op .add (.dat (.int (150))) (.cal "_law_take" (.cons (.var 1) (.cons (.dat (.int (200))) .nil))))) (.lst (.cons (.dat (.int (1))) (.cons (.dat (.int (0))) (.cons (.dat (.int (1))) .nil))))) .nil)))
  (.cons (ifF e4C)
  (.cons (.ret e5C)
  .nil)))))
def c_law2 : MSts := (.cons (.set 1 (.cal "_law_open" (.cons (.var 0) .nil))) (.cons (.loop (.name 2) (.rng1 (.dat (.int (3)))) turnB2) endB2))
theorem long_D (n : Nat) : natsD (List.replicate n 0) ++ [.int 1, .int 0, .int 1] = natsD (longP n) := by
  unfold longP
  rw [natsD_append]; rfl
theorem long_len (n : Nat) : (longP n).length = n + 3 := by simp [longP]
theorem end2_ok (cal : Str → Call) (ht : TakeOk cal) (hra : RowAtOk cal) (cells : List Int) (s0 s2 s3 s4 s5 s6 s7 s8 s9 s10 s11 s12 s13 : Option W) (a v : Int) (h0 : 0 ≤ a) (h1 : a + 10 ≤ 1000000) (hv : 0 ≤ v) :
    ∃ e', endB2.den cal (okF [false]) [s0, some (penW cells a v), s2, s3, s4, s5, s6, s7, s8, s9, s10, s11, s12, s13, none, none] = .ok (.ret (.w (.d (.bool true))), s0 :: e') := by
  obtain ⟨m0, a1, v1, m1, m2, p1, p2, p3, e1⟩ := ht cells a v 30 h0 (by omega) hv (by decide) (by decide)
  obtain ⟨m, hm⟩ : ∃ m : Nat, 2 + m0 = (m : Int) := ⟨(2 + m0).toNat, by omega⟩
  obtain ⟨k0, a2, v2, k1, k2, q1, q2, q3, e2⟩ := ht cells a1 v1 200 (by omega) (by omega) p3 (by omega) (by omega)
  obtain ⟨k, hk⟩ : ∃ k : Nat, 150 + k0 = (k : Int) := ⟨(150 + k0).toNat, by omega⟩
  have hm1 : 1 ≤ m := by omega
  have hm2 : m ≤ 120 := by omega
  have hk2 : k ≤ 1000 := by omega
  have g := ring_good hm1 hm2
  have ln := ring_len m
  have z1 : (1 : Nat) ≤ SZ := by decide
  have z2 : (2 : Nat) ≤ SZ := by decide
  have z3 : (3 : Nat) ≤ SZ := by decide
  have big : (10000 : Nat) ≤ SZ := by decide
  have gr : ∀ e : Env, rngR (.w (.d (natD m)), e) = .ok (([], natsD (List.range m)), e) := fun e => by rw [← rangeD_nat]; exact rng_small (by omega)
  have loop := ring_loop cal m hm1 s0 (some (penW cells a1 v1)) s2 s3 s4 s5 s6 s7 s8 s9 s11 s12 s13 (List.range m) [] (by simp; omega)
  have r0 : rowsD [] = [] := rfl
  rw [r0] at loop
  simp only [List.nil_append] at loop
  have S1 : MSt.den cal (okF [false]) (.set 10 (.op .add (.dat (.int (2))) (.cal "_law_take" (.cons (.var 1) (.cons (.dat (.int (30))) .nil))))) [s0, some (penW cells a v), s2, s3, s4, s5, s6, s7, s8, s9, s10, s11, s12, s13, none, none] =
      .ok (.nx, [s0, some (penW cells a1 v1), s2, s3, s4, s5, s6, s7, s8, s9, some (.d (natD m)), s11, s12, s13, none, none]) := by
    simp [e1, hm, MEs.q, ME.q, natD]
  have S2 : MSt.den cal (okF [false]) (.set 3 (.bi .tuple (.cons (.comp [14, 15] (.name 15) (.rng1 (.var 10)) .yes ringE) .nil))) [s0, some (penW cells a1 v1), s2, s3, s4, s5, s6, s7, s8, s9, some (.d (natD m)), s11, s12, s13, none, none] =
      .ok (.nx, [s0, some (penW cells a1 v1), s2, some (.d (webD (ringW m))), s4, s5, s6, s7, s8, s9, some (.d (natD m)), s11, s12, s13, none, none]) := by
    have dc : ME.den cal (.comp [14, 15] (.name 15) (.rng1 (.var 10)) .yes ringE) [s0, some (penW cells a1 v1), s2, s3, s4, s5, s6, s7, s8, s9, some (.d (natD m)), s11, s12, s13, none, none] =
        .ok (.w (.ol (rowsD (ringW m))), [s0, some (penW cells a1 v1), s2, s3, s4, s5, s6, s7, s8, s9, some (.d (natD m)), s11, s12, s13, none, none]) := by
      simp [gr, -rngR_ap, freeSlot, wipeE]
      rw [loop]
      simp [backE, ringW]
    simp [dc, webD, MEs.q, ME.q]
  have em := mul_l hk2
  have ea : BOp.sem .add (.list (natsD (List.replicate k 0))) (.list [.int 1, .int 0, .int 1]) = some (.ol (natsD (longP k))) := by
    rw [add_lst (by simp; omega), long_D]
  have S3 : MSt.den cal (okF [false]) (.set 7 (.bi .tuple (.cons (.op .add (.op .mul (.lst (.cons (.dat (.int (0))) .nil)) (.op .add (.dat (.int (150))) (.cal "_law_take" (.cons (.var 1) (.cons (.dat (.int (200))) .nil))))) (.lst (.cons (.dat (.int (1))) (.cons (.dat (.int (0))) (.cons (.dat (.int (1))) .nil))))) .nil))) [s0, some (penW cells a1 v1), s2, some (.d (webD (ringW m))), s4, s5, s6, s7, s8, s9, some (.d (natD m)), s11, s12, s13, none, none] =
      .ok (.nx, [s0, some (penW cells a2 v2), s2, some (.d (webD (ringW m))), s4, s5, s6, some (.d (.tuple (natsD (longP k)))), s8, s9, some (.d (natD m)), s11, s12, s13, none, none]) := by
    simp [e2, hk, em, ea, z1, z3, MEs.q, ME.q]
  -- the answers
  have A1 := hra oneW 0 (List.replicate 1000 0) one_good (by decide) (by simp)
  rw [one_zeros] at A1
  have A1' : cal "row_at" [.d (.tuple [.tuple [.str "g", .tuple [.int 0]]]), .d (.int 0), .d (.tuple (natsD (List.replicate 1000 0)))] = .ok (.w (.d (.int 0)), [some (.d (webD oneW)), some (.d (natD 0)), some (.d (.tuple (natsD (List.replicate 1000 0))))]) := A1
  have t3 := mul_t (n := 1000) (by decide)
  have c1000 : ((1000 : Nat) : Int) = 1000 := rfl
  rw [c1000] at t3
  have A2 := hra (ringW m) 0 (longP k ++ [10 ^ 20]) g (by omega) (by simp [long_len]; omega)
  rw [ring_off hm1 k (10 ^ 20) (by decide)] at A2
  have A3 := hra (ringW m) 0 (longP k ++ [2]) g (by omega) (by simp [long_len]; omega)
  rw [ring_off hm1 k 2 (by decide)] at A3
  have A4 := hra (ringW m) 0 (longP k) g (by omega) (by simp [long_len]; omega)
  rw [ring_long hm1 k] at A4
  have B2 : BOp.sem .add (.tuple (natsD (longP k))) (.tuple [.int (10 ^ 20)]) = some (.d (.tuple (natsD (longP k ++ [10 ^ 20])))) := by
    rw [add_tup (by simp [long_len]; omega), natsD_append]; rfl
  have B3 : BOp.sem .add (.tuple (natsD (longP k))) (.tuple [.int 2]) = some (.d (.tuple (natsD (longP k ++ [2])))) := by
    rw [add_tup (by simp [long_len]; omega), natsD_append]; rfl
  have pw : BOp.sem .pow (.int 10) (.int 20) = some (.d (.int (10 ^ 20))) := s_powI (by decide) (by decide) (by decide)
  have n1 : BOp.sem .ne (.int 0) (.int 0) = some (.d (.bool false)) := rfl
  have ln7 : Bi.sem .len [.d (.tuple (natsD (longP k)))] = some (.d (.int ((k + 3 : Nat) : Int))) := by rw [len_t, long_len]
  have sb : BOp.sem .sub (.int ((k + 3 : Nat) : Int)) (.int 2) = some (.d (.int ((k + 1 : Nat) : Int))) := by
    show some (W.d (.int (((k + 3 : Nat) : Int) - 2))) = _
    congr 3; omega
  have ii : Bi.sem .int [.d (.int ((k + 1 : Nat) : Int))] = some (.d (.int ((k + 1 : Nat) : Int))) := rfl
  have md : BOp.sem .mod (.int ((k + 1 : Nat) : Int)) (natD m) = some (.d (natD ((k + 1) % m))) := by
    show BOp.sem .mod (.int ((k + 1 : Nat) : Int)) (.int (m : Int)) = _
    rw [s_modI (by omega)]; exact congrArg (fun z => some (W.d (PyData.int z))) (Int.natCast_emod (k + 1) m).symm
  have eq1 : BOp.sem .eq (natD ((k + 1) % m)) (natD ((k + 1) % m)) = some (.d (.bool true)) := by
    show some (W.d (.bool (((((k + 1) % m : Nat) : Int)) == ((((k + 1) % m : Nat) : Int))))) = _
    simp
  have e20 : ((10 : Int) ^ 20) = 100000000000000000000 := by decide
  rw [e20] at B2 pw
  have d0 : natD 0 = .int 0 := rfl
  rw [d0] at A2 A3 A4
  generalize hP : longP k = P at *
  generalize hQ : P ++ [10 ^ 20] = Q at *
  generalize hR : P ++ [2] = R' at *
  generalize hZ : List.replicate 1000 0 = Z at *
  have S4 : MSt.den cal (okF [false]) (ifF e4C) [s0, some (penW cells a2 v2), s2, some (.d (webD (ringW m))), s4, s5, s6, some (.d (.tuple (natsD P))), s8, s9, some (.d (natD m)), s11, s12, s13, none, none] =
      .ok (.nx, [s0, some (penW cells a2 v2), s2, some (.d (webD (ringW m))), s4, s5, s6, some (.d (.tuple (natsD P))), s8, s9, some (.d (natD m)), s11, s12, s13, none, none]) := by
    unfold ifF e4C
    simp [A1', A2, t3, B2, pw, n1, z1, z2, optD, isN, MEs.q, ME.q]
  have S5 : MSt.den cal (okF [false]) (.ret e5C) [s0, some (penW cells a2 v2), s2, some (.d (webD (ringW m))), s4, s5, s6, some (.d (.tuple (natsD P))), s8, s9, some (.d (natD m)), s11, s12, s13, none, none] =
      .ok (.ret (.w (.d (.bool true))), [s0, some (penW cells a2 v2), s2, some (.d (webD (ringW m))), s4, s5, s6, some (.d (.tuple (natsD P))), s8, s9, some (.d (natD m)), s11, s12, s13, none, none]) := by
    unfold e5C
    generalize ((k + 3 : Nat) : Int) = K3 at *
    generalize ((k + 1 : Nat) : Int) = K1 at *
    generalize (k + 1) % m = K0 at *
    simp only [optD] at A3 A4
    simp [A3, A4, B3, ln7, sb, ii, md, eq1, z1, isN, MEs.q, ME.q]
  refine ⟨[some (penW cells a2 v2), s2, some (.d (webD (ringW m))), s4, s5, s6, some (.d (.tuple (natsD P))), s8, s9, some (.d (natD m)), s11, s12, s13, none, none], ?_⟩
  unfold endB2
  rw [sts_cons, S1, rb_ok, kSeq_nx, sts_cons, S2, rb_ok, kSeq_nx, sts_cons, S3, rb_ok, kSeq_nx, sts_cons, S4, rb_ok, kSeq_nx, sts_cons, S5, rb_ok]
  rfl
theorem law2_ok (cal : Str → Call) (hop : OpenOk cal) (ht : TakeOk cal) (ho : OneOk cal) (han : AnewOk cal) (hd : DrawnT cal) (hp : PartsOk "_law_parts_of" cal) (hle : LeadOk cal) (hra : RowAtOk cal) (hre : ReachedOk cal) (hlr : ReachOk "_law_reach" cal) (hbl : BlanksOk cal) (ns : List Int) :
    ∃ fin, runDf ⟨1, 16, okF [false]⟩ (c_law2.den cal (okF [false])) [.fl (ns.map PyData.int)] = .ok (.w (.d (.bool true)), fin) := by
  obtain ⟨cells, e1⟩ := hop ns
  obtain ⟨a', v', t2, t3, t4, t5, t6, t7, t8, t9, t10, t11, t12, t13, p1, p2, p3, e2⟩ := turns2 cal ht ho han hd hp hle hra hre hlr hbl cells (some (.fl (ns.map PyData.int))) (rangeD 0 (3 : Nat)) none none none none none none none none none none none none 0 0 (.inl rfl) (by omega) (by rw [rng_len]; omega) (by omega)
  rw [rng_len] at p2
  obtain ⟨e', e3⟩ := end2_ok cal ht hra cells (some (.fl (ns.map PyData.int))) t2 t3 t4 t5 t6 t7 t8 t9 t10 t11 t12 t13 a' v' (by omega) (by omega) p3
  have c3 : ((3 : Nat) : Int) = 3 := rfl
  rw [c3] at e2
  have g1 : ∀ e : Env, rngR (.w (.d (.int (3 : Int))), e) = .ok (([], rangeD 0 3), e) := fun e => rng_small (j := 3) (by omega)
  refine ⟨[some (.fl (ns.map PyData.int))], ?_⟩
  rw [run_eq]
  simp [c_law2, e1, List.replicate, g1, -rngR_ap, MEs.q, ME.q]
  try simp at e2
  rw [e2]
  simp
  try simp at e3
  rw [e3]
  simp
end Rf
end

section
set_option Elab.async false
set_option linter.all false
set_option maxRecDepth 100000
set_option maxHeartbeats 0
namespace K02
open PySem Rf
abbrev prog : Program := PySem.Challenge.pw_roundterm_k02_rows_at_paths_and_reached
def pg : Pg := pgOf prog
abbrev R : PySem.W.OpenRow := PySem.W.OpenLaw.row PySem.Challenge.rw_roundterm_k02_rows_at_paths_and_reached
abbrev hk : PySem.W.Hook := He.hookD 4 pg.facts (pg.ds.map Dn.dd)
def ob (s : PySem.W.SharedT) : He.AlD := He.obsDG 4 pg.facts (pg.ds.map Dn.dd) (HandSHeadRun.getT s)
theorem ob_eq (s : PySem.W.SharedT) : ob s = hk.obs s.abs := He.obsDG_eq (HandSHeadRun.getT_eq s)
def names : List PySem.Str := (prog.main.body.filterMap boundN).filter fun x => !decide (x = ("law" : PySem.Str))
theorem good : pg.good = true := by decide +kernel
theorem run (w : World) : HandSHeadRun.RunEq R (PySem.W.view R.prog [35]) hk ob 4000 names w := by
  intro os
  kernel_rfl
end K02
end

section
set_option Elab.async false
set_option linter.all false
set_option maxRecDepth 100000
set_option maxHeartbeats 0
namespace K02
open PySem Rf
theorem int_c (n : Nat) : IntOk (pg.calls (n + 1)) := fun d h => by
  rw [show pg.calls (n + 1) "is_integer" = runDf ⟨1, 1, okF [false]⟩ (cis_integer.den (pg.calls n) (okF [false])) by kernel_rfl]
  exact is_integer_ok _ d h
theorem below_c (n : Nat) : BelowOk (pg.calls (n + 2)) := fun d many h => by
  rw [show pg.calls (n + 2) "is_below" = runDf ⟨2, 2, okF [false, false]⟩ (cis_below.den (pg.calls (n + 1)) (okF [false, false])) by kernel_rfl]
  exact is_below_ok _ d many h (int_c n d h)
theorem name_c (n : Nat) : NameOk (pg.calls (n + 1)) := fun d h => by
  rw [show pg.calls (n + 1) "is_name" = runDf ⟨1, 3, okF [false]⟩ (cis_name.den (pg.calls n) (okF [false])) by kernel_rfl]
  exact is_name_ok _ d SZ (Nat.le_refl _) h
theorem row_c (n : Nat) : RowOk (pg.calls (n + 3)) := fun d many h => by
  rw [show pg.calls (n + 3) "is_row" = runDf ⟨2, 4, okF [false, false]⟩ (cis_row.den (pg.calls (n + 2)) (okF [false, false])) by kernel_rfl]
  exact is_row_ok _ (name_c (n + 1)) (below_c n) d many h
theorem web_c (n : Nat) : IsWeb (pg.calls (n + 4)) := fun d h => by
  rw [show pg.calls (n + 4) "is_web" = runDf ⟨1, 3, okF [false]⟩ (cis_web.den (pg.calls (n + 3)) (okF [false])) by kernel_rfl]
  exact is_web_ok _ (row_c n) d h
theorem needweb_c (n : Nat) : NeedWeb (pg.calls (n + 5)) := fun w g => by
  rw [show pg.calls (n + 5) "need_web" = runDf ⟨1, 1, okF [false]⟩ (cneed_web.den (pg.calls (n + 4)) (okF [false])) by kernel_rfl]
  exact need_web_ok _ (web_c n) w g
theorem needrow_c (n : Nat) : NeedRow (pg.calls (n + 3)) := fun w a h => by
  rw [show pg.calls (n + 3) "need_row" = runDf ⟨2, 2, okF [false, false]⟩ (cneed_row.den (pg.calls (n + 2)) (okF [false, false])) by kernel_rfl]
  exact need_row_ok _ (below_c n) w a h
theorem parts_c (n : Nat) : PartsOk "parts_of" (pg.calls (n + 1)) := fun r => by
  rw [show pg.calls (n + 1) "parts_of" = runDf ⟨1, 1, okF [false]⟩ (cparts.den (pg.calls n) (okF [false])) by kernel_rfl]
  exact parts_ok _ r
theorem lparts_c (n : Nat) : PartsOk "_law_parts_of" (pg.calls (n + 1)) := fun r => by
  rw [show pg.calls (n + 1) "_law_parts_of" = runDf ⟨1, 1, okF [false]⟩ (cparts.den (pg.calls n) (okF [false])) by kernel_rfl]
  exact parts_ok _ r
theorem reach_c (n : Nat) : ReachOk "find_reached" (pg.calls (n + 2)) := fun w a h1 h2 h3 h4 => by
  rw [show pg.calls (n + 2) "find_reached" = runDf ⟨2, 5, okF [false, false]⟩ (cfind_reached.den (pg.calls (n + 1)) (okF [false, false])) by kernel_rfl]
  exact find_reached_ok _ (parts_c n) w a h1 h2 h3 h4
theorem lreach_c (n : Nat) : ReachOk "_law_reach" (pg.calls (n + 2)) := fun w a h1 h2 h3 h4 => by
  rw [show pg.calls (n + 2) "_law_reach" = runDf ⟨2, 5, okF [false, false]⟩ (c_law_reach.den (pg.calls (n + 1)) (okF [false, false])) by kernel_rfl]
  exact law_reach_ok _ (lparts_c n) w a h1 h2 h3 h4
theorem path_c (n : Nat) : PathOk (pg.calls (n + 2)) := fun ps h => by
  rw [show pg.calls (n + 2) "is_path" = runDf ⟨1, 3, okF [false]⟩ (cis_path.den (pg.calls (n + 1)) (okF [false])) by kernel_rfl]
  exact is_path_ok _ (int_c n) ps h
theorem find_c (n : Nat) : FindOk (pg.calls (n + 2)) := fun w a ps h1 h2 => by
  rw [show pg.calls (n + 2) "find_row" = runDf ⟨3, 5, okF [false, true, false]⟩ (cfind_row.den (pg.calls (n + 1)) (okF [false, true, false])) by kernel_rfl]
  exact find_row_ok _ (parts_c n) w a ps h1 h2
theorem rowat_c (n : Nat) : RowAtOk (pg.calls (n + 6)) := fun w a ps h1 h2 h3 => by
  rw [show pg.calls (n + 6) "row_at" = runDf ⟨3, 3, okF [false, false, false]⟩ (crow_at.den (pg.calls (n + 5)) (okF [false, false, false])) by kernel_rfl]
  exact row_at_ok _ (needweb_c n) (needrow_c (n + 2)) (path_c (n + 3)) (find_c (n + 3)) w a ps h1 h2 h3
theorem reached_c (n : Nat) : ReachedOk (pg.calls (n + 6)) := fun w a h1 h2 => by
  rw [show pg.calls (n + 6) "reached" = runDf ⟨2, 2, okF [false, false]⟩ (creached.den (pg.calls (n + 5)) (okF [false, false])) by kernel_rfl]
  exact reached_ok _ (needweb_c n) (needrow_c (n + 2)) (reach_c (n + 3)) w a h1 h2
theorem findbl_c (n : Nat) : FindBlOk (pg.calls (n + 3)) := fun w a h1 h2 => by
  rw [show pg.calls (n + 3) "find_blanks" = runDf ⟨2, 4, okF [false, false]⟩ (cfind_blanks.den (pg.calls (n + 2)) (okF [false, false])) by kernel_rfl]
  exact find_blanks_ok _ (reach_c n) w a h1 h2
theorem blanks_c (n : Nat) : BlanksOk (pg.calls (n + 6)) := fun w a h1 h2 => by
  rw [show pg.calls (n + 6) "blanks_of" = runDf ⟨2, 2, okF [false, false]⟩ (cblanks_of.den (pg.calls (n + 5)) (okF [false, false])) by kernel_rfl]
  exact blanks_of_ok _ (needweb_c n) (needrow_c (n + 2)) (findbl_c (n + 2)) w a h1 h2
theorem lead_c (n : Nat) : LeadOk (pg.calls (n + 2)) := fun w a ps h1 h2 => by
  rw [show pg.calls (n + 2) "_law_lead" = runDf ⟨3, 4, okF [false, true, false]⟩ (c_law_lead.den (pg.calls (n + 1)) (okF [false, true, false])) by kernel_rfl]
  exact law_lead_ok _ (lparts_c n) w a ps h1 h2
theorem spread_c (n : Nat) : SpreadOk (pg.calls (n + 1)) := fun c a h0 h1 => by
  rw [show pg.calls (n + 1) "_law_spread" = runDf ⟨2, 8, okF [false, false]⟩ (c_law_spread.den (pg.calls n) (okF [false, false])) by kernel_rfl]
  exact spread_ok _ c a h0 h1
theorem take_c (n : Nat) : TakeOk (pg.calls (n + 2)) := fun cells a v many h0 h1 h2 h3 h4 => by
  rw [show pg.calls (n + 2) "_law_take" = runDf ⟨2, 5, okF [false, false]⟩ (c_law_take.den (pg.calls (n + 1)) (okF [false, false])) by kernel_rfl]
  exact take_ok _ (spread_c n) cells a v many h0 h1 h2 h3 h4
theorem open_c (n : Nat) : OpenOk (pg.calls (n + 1)) := fun ns => by
  rw [show pg.calls (n + 1) "_law_open" = runDf ⟨1, 4, okF [false]⟩ (c_law_open.den (pg.calls n) (okF [false])) by kernel_rfl]
  exact open_ok _ ns
theorem anew_c (n : Nat) : AnewOk (pg.calls (n + 1)) := fun cells a v => by
  rw [show pg.calls (n + 1) "_law_anew" = runDf ⟨1, 1, okF [false]⟩ (c_law_anew.den (pg.calls n) (okF [false])) by kernel_rfl]
  exact anew_ok _ cells a v
theorem one_c (n : Nat) : OneOk (pg.calls (n + 3)) := fun cells a v xs w h1 h2 h3 h4 h5 h6 => by
  rw [show pg.calls (n + 3) "_law_one" = runDf ⟨2, 2, okF [false, false]⟩ (c_law_one.den (pg.calls (n + 2)) (okF [false, false])) by kernel_rfl]
  exact one_ok _ (take_c n) cells a v xs w h1 h2 h3 h4 h5 h6
theorem drawn_c (n : Nat) : DrawnT (pg.calls (n + 4)) := drawn_typed fun cells a v many s b h1 h2 h3 h4 h5 h6 h7 h8 => by
  rw [show pg.calls (n + 4) "_law_drawn_web" = runDf ⟨4, 14, okF [false, false, false, false]⟩ (c_law_drawn_web.den (pg.calls (n + 3)) (okF [false, false, false, false])) by kernel_rfl]
  exact drawn_ok _ (take_c (n + 1)) (one_c n) cells a v many s b h1 h2 h3 h4 h5 h6 h7 h8
theorem law_e (n : Nat) : pg.calls (n + 1) "law" = runDf ⟨1, 16, okF [false]⟩ (c_law2.den (pg.calls n) (okF [false])) := by kernel_rfl
theorem pure_law (ns : List Int) (h : ns.length ≤ 63) : ∃ fin, pg.calls 40 "law" [.fl (ns.map PyData.int)] = .ok (.w (.d (.bool true)), fin) := by
  rw [law_e 39]
  exact law2_ok _ (open_c 38) (take_c 37) (one_c 36) (anew_c 38) (drawn_c 35) (lparts_c 38) (lead_c 37) (rowat_c 33) (reached_c 33) (lreach_c 37) (blanks_c 33) ns
end K02
end

section
set_option Elab.async false
set_option linter.all false
set_option maxRecDepth 100000
set_option maxHeartbeats 0
namespace K02
open PySem Rf
theorem found : ∃ dl, findD "law" pg.ds = some dl ∧ ∃ x, dl.ps = [x] := by
  cases e : findD "law" pg.ds with
  | none =>
    have h : (findD "law" pg.ds).isSome = true := by decide +kernel
    rw [e] at h
    cases h
  | some dl =>
    have h : ((findD "law" pg.ds).map fun d => decide (d.ps.length = 1)) = some true := by decide +kernel
    rw [e] at h
    have h1 : dl.ps.length = 1 := by simpa using h
    match hq : dl.ps, h1 with
    | [x], _ => exact ⟨dl, rfl, x, hq⟩
end K02
open PySem PySem.W PySem.Calls PyProof.Rows
theorem PySem.Challenge.cw_roundterm_k02_rows_at_paths_and_reached_holds : PySem.Challenge.rw_roundterm_k02_rows_at_paths_and_reached.Holds := by
  w_on; o_law
  refine HandSHeadRun.head_any (r := K02.R) (q := view K02.R.prog [35]) (H := K02.hk) (ob := K02.ob) (M := 4000) (loose := K02.names) (d := HandSHeadRun.topDef K02.R.prog 35) (kwd := []) K02.ob_eq
    (by kernel_rfl) (fun s => by kernel_rfl) K02.run (by kernel_rfl) (by kernel_rfl) (by kernel_rfl) (by rfl) (by first | assumption | decide +kernel) (by decide +kernel) ⟨rfl, rfl, rfl, rfl, rfl, by decide +kernel⟩ ?hw ?hc
  case hw => w_witness2
  case hc =>
    obtain ⟨dl, h1, h2⟩ := K02.found
    have e : (HandSHeadRun.topDef K02.R.prog 35).name = ("law" : PySem.Str) := by kernel_rfl
    exact Rf.law_walk (l := PySem.Challenge.rw_roundterm_k02_rows_at_paths_and_reached) (n := 63) (k := 40) (p := K02.pg) (dl := dl) rfl (by decide) (by kernel_rfl) ⟨rfl, by decide, by decide⟩ K02.good (by rw [e]; exact h1) h2 (fun ns h => by rw [e]; exact K02.pure_law ns h)
end
