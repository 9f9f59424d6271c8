import PyProof.Rows.All
import Wide.All
import OpenK.AllK
import Wide.FinOn
import HandS.ForMost
import HandS.ForExc
import HandS.Wide
import HandS.Flow
import HandS.IsInst
import HandS.RaiseMore
import HandS.EndBits
import PySem.Challenge.RW_ringhall_k76_events_written
set_option Elab.async false
set_option linter.all false
set_option maxRecDepth 100000
set_option maxHeartbeats 4000000
/-! Rh1: deep data, what an owner has, the state of a body as data. -/
namespace Rh
open PySem L2
/-- data as a whole: lists and dicts within it are objects of the heap -/
inductive D where
  | non | bl (b : Bool) | int (i : Int) | str (s : Str) | ref (a : Addr) | ty (n : String)
  | tup (xs : List D) | lst (xs : List D)
  | dct (ks : List Key) (vs : List D)
  | ins (C : Addr) (ns : List Str) (vs : List D)
instance : Inhabited D := ⟨.non⟩
/-- how deep it is owned, and what it is -/
abbrev DK := Nat × D
abbrev Gm := List (Option DK)

mutual
inductive Rp (K : PySem.W.Frag) (Sh H : Hp) : Nat → D → V → List Addr → Prop where
  | non {k} : Rp K Sh H k .non .non []
  | bl {k} {b : Bool} : Rp K Sh H k (.bl b) (.bl b) []
  | int {k} {i : Int} : Rp K Sh H k (.int i) (.int i) []
  | str {k} {s : Str} : Rp K Sh H k (.str s) (.str s) []
  | ref {k} {a : Addr} : Rp K Sh H k (.ref a) (.ref a) []
  | ty {k} {n : String} : Rp K Sh H k (.ty n) (.ty n) []
  | tup {k} {a : Addr} {vs : List V} {ds : List D} {fp : List Addr} : SqT K Sh a vs → RpA K Sh H k ds vs fp → Rp K Sh H k (.tup ds) (.ref a) fp
  | fz {a : Addr} {vs : List V} {ds : List D} {fp : List Addr} : SqL K Sh a vs → RpA K Sh H 0 ds vs fp → Rp K Sh H 0 (.lst ds) (.ref a) fp
  | own {k} {a : Addr} {vs : List V} {ds : List D} {fp : List Addr} : H a = some (.lst vs) → RpA K Sh H k ds vs fp → Rp K Sh H (k + 1) (.lst ds) (.ref a) (a :: fp)
  | dfz {a : Addr} {ks : List Key} {vs : List V} {ds : List D} {fp : List Addr} : Sh a = some (.dK (ks.zip vs)) → ks.length = ds.length → RpA K Sh H 0 ds vs fp → Rp K Sh H 0 (.dct ks ds) (.ref a) fp
  | down {k} {a : Addr} {ks : List Key} {vs : List V} {ds : List D} {fp : List Addr} : H a = some (.dK (ks.zip vs)) → ks.length = ds.length → RpA K Sh H k ds vs fp → Rp K Sh H (k + 1) (.dct ks ds) (.ref a) (a :: fp)
  | ifz {C a dx : Addr} {ns : List Str} {vs : List V} {ds : List D} {fp : List Addr} : Sh a = some (.ins C dx (ns.zip vs)) → ns.length = ds.length → RpA K Sh H 0 ds vs fp → Rp K Sh H 0 (.ins C ns ds) (.ref a) fp
  | iown {k} {C a dx : Addr} {ns : List Str} {vs : List V} {ds : List D} {fp : List Addr} : H a = some (.ins C dx (ns.zip vs)) → ns.length = ds.length → RpA K Sh H k ds vs fp → Rp K Sh H (k + 1) (.ins C ns ds) (.ref a) (a :: fp)
inductive RpA (K : PySem.W.Frag) (Sh H : Hp) : Nat → List D → List V → List Addr → Prop where
  | nil {k} : RpA K Sh H k [] [] []
  | cons {k} {d : D} {v : V} {ds : List D} {vs : List V} {f g : List Addr} : Rp K Sh H k d v f → RpA K Sh H k ds vs g → RpA K Sh H k (d :: ds) (v :: vs) (f ++ g)
end

section
variable {K : PySem.W.Frag} {Sh H Sh' H' : Hp}
theorem RpA.length : ∀ {k : Nat} {ds : List D} {vs : List V} {fp : List Addr}, RpA K Sh H k ds vs fp → ds.length = vs.length
  | _, _, _, _, .nil => rfl
  | _, _, _, _, .cons _ t => congrArg (· + 1) t.length
mutual
theorem Rp.zero : ∀ {d : D} {v : V} {fp : List Addr}, Rp K Sh H 0 d v fp → fp = []
  | _, _, _, .non => rfl
  | _, _, _, .bl => rfl
  | _, _, _, .int => rfl
  | _, _, _, .str => rfl
  | _, _, _, .ref => rfl
  | _, _, _, .ty => rfl
  | _, _, _, .tup _ t => t.zero
  | _, _, _, .fz _ t => t.zero
  | _, _, _, .dfz _ _ t => t.zero
  | _, _, _, .ifz _ _ t => t.zero
theorem RpA.zero : ∀ {ds : List D} {vs : List V} {fp : List Addr}, RpA K Sh H 0 ds vs fp → fp = []
  | _, _, _, .nil => rfl
  | _, _, _, .cons h t => by rw [h.zero, t.zero]; rfl
end
def Ex (H H' : Hp) : Prop := ∀ a o, H a = some o → H' a = some o
theorem Ex.refl (H : Hp) : Ex H H := fun _ _ h => h
theorem Ex.trans {H H1 H2 : Hp} (a : Ex H H1) (b : Ex H1 H2) : Ex H H2 := fun x o h => b x o (a x o h)
theorem Ex.rd {a : Addr} {u : HO} (e : Ex H H') (h : Rd H a u) : Rd H' a u := by
  rcases h with h | ⟨o, h⟩
  · exact Or.inl (e a _ h)
  · exact Or.inr ⟨o, e a _ h⟩
theorem Ex.l {a : Addr} {xs : List V} (e : Ex H H') (h : SqL K H a xs) : SqL K H' a xs := by
  rcases h with h | h
  · exact Or.inl (e.rd h)
  · exact Or.inr h
theorem Ex.t {a : Addr} {xs : List V} (e : Ex H H') (h : SqT K H a xs) : SqT K H' a xs := by
  rcases h with h | h
  · exact Or.inl (e.rd h)
  · exact Or.inr h
theorem Ex.new {p : Addr} {o : HO} (h : H p = none) : Ex H (upd H p o) := fun a u e => by
  rw [upd_ne (ne_of_none e h)]
  exact e
mutual
theorem Rp.mono (e : Ex Sh Sh') : ∀ {k : Nat} {d : D} {v : V} {fp : List Addr}, Rp K Sh H k d v fp → (∀ a ∈ fp, H' a = H a) → Rp K Sh' H' k d v fp
  | _, _, _, _, .non, _ => .non
  | _, _, _, _, .bl, _ => .bl
  | _, _, _, _, .int, _ => .int
  | _, _, _, _, .str, _ => .str
  | _, _, _, _, .ref, _ => .ref
  | _, _, _, _, .ty, _ => .ty
  | _, _, _, _, .tup h t, q => .tup (e.t h) (t.mono e q)
  | _, _, _, _, .fz h t, q => .fz (e.l h) (t.mono e q)
  | _, _, _, _, .own h t, q => .own ((q _ List.mem_cons_self).trans h) (t.mono e fun a m => q a (List.mem_cons_of_mem _ m))
  | _, _, _, _, .dfz h l t, q => .dfz (e _ _ h) l (t.mono e q)
  | _, _, _, _, .down h l t, q => .down ((q _ List.mem_cons_self).trans h) l (t.mono e fun a m => q a (List.mem_cons_of_mem _ m))
  | _, _, _, _, .ifz h l t, q => .ifz (e _ _ h) l (t.mono e q)
  | _, _, _, _, .iown h l t, q => .iown ((q _ List.mem_cons_self).trans h) l (t.mono e fun a m => q a (List.mem_cons_of_mem _ m))
theorem RpA.mono (e : Ex Sh Sh') : ∀ {k : Nat} {ds : List D} {vs : List V} {fp : List Addr}, RpA K Sh H k ds vs fp → (∀ a ∈ fp, H' a = H a) → RpA K Sh' H' k ds vs fp
  | _, _, _, _, .nil, _ => .nil
  | _, _, _, _, .cons h t, q => .cons (h.mono e fun a m => q a (List.mem_append_left _ m)) (t.mono e fun a m => q a (List.mem_append_right _ m))
end
/-! what is owned is there -/
mutual
theorem Rp.there : ∀ {k : Nat} {d : D} {v : V} {fp : List Addr}, Rp K Sh H k d v fp → ∀ a ∈ fp, H a ≠ none
  | _, _, _, _, .non, _, m => nomatch m
  | _, _, _, _, .bl, _, m => nomatch m
  | _, _, _, _, .int, _, m => nomatch m
  | _, _, _, _, .str, _, m => nomatch m
  | _, _, _, _, .ref, _, m => nomatch m
  | _, _, _, _, .ty, _, m => nomatch m
  | _, _, _, _, .tup _ t, a, m => t.there a m
  | _, _, _, _, .fz _ t, a, m => t.there a m
  | _, _, _, _, .own h t, a, m => by
    rcases List.mem_cons.mp m with rfl | m
    · rw [h]; exact nofun
    · exact t.there a m
  | _, _, _, _, .dfz _ _ t, a, m => t.there a m
  | _, _, _, _, .down h _ t, a, m => by
    rcases List.mem_cons.mp m with rfl | m
    · rw [h]; exact nofun
    · exact t.there a m
  | _, _, _, _, .ifz _ _ t, a, m => t.there a m
  | _, _, _, _, .iown h _ t, a, m => by
    rcases List.mem_cons.mp m with rfl | m
    · rw [h]; exact nofun
    · exact t.there a m
theorem RpA.there : ∀ {k : Nat} {ds : List D} {vs : List V} {fp : List Addr}, RpA K Sh H k ds vs fp → ∀ a ∈ fp, H a ≠ none
  | _, _, _, _, .nil, _, m => nomatch m
  | _, _, _, _, .cons h t, a, m => (List.mem_append.mp m).elim (h.there a) (t.there a)
end
theorem nodup_app {α : Type} {f g : List α} (h : (f ++ g).Nodup) : f.Nodup ∧ g.Nodup ∧ ∀ a ∈ f, a ∉ g := by
  rw [List.nodup_append] at h
  exact ⟨h.1, h.2.1, fun a m n => h.2.2 a m a n rfl⟩
/-! less deep: what is let go stands in the shared part -/
mutual
theorem Rp.less : ∀ {k : Nat} {d : D} {v : V} {fp : List Addr}, Rp K Sh H k d v fp → fp.Nodup → ∀ j ≤ k, ∃ gp, gp.Sublist fp ∧ ∀ Sh' : Hp, Ex Sh Sh' → (∀ a ∈ fp, a ∉ gp → Sh' a = H a) → Rp K Sh' H j d v gp
  | _, _, _, _, .non, _, _, _ => ⟨[], .slnil, fun _ _ _ => .non⟩
  | _, _, _, _, .bl, _, _, _ => ⟨[], .slnil, fun _ _ _ => .bl⟩
  | _, _, _, _, .int, _, _, _ => ⟨[], .slnil, fun _ _ _ => .int⟩
  | _, _, _, _, .str, _, _, _ => ⟨[], .slnil, fun _ _ _ => .str⟩
  | _, _, _, _, .ref, _, _, _ => ⟨[], .slnil, fun _ _ _ => .ref⟩
  | _, _, _, _, .ty, _, _, _ => ⟨[], .slnil, fun _ _ _ => .ty⟩
  | _, _, _, _, .tup h t, nd, j, hj => by
    obtain ⟨gp, s, f⟩ := t.less nd j hj
    exact ⟨gp, s, fun Sh' e q => .tup (e.t h) (f Sh' e q)⟩
  | _, _, _, _, .fz h t, nd, j, hj => by
    obtain rfl : j = 0 := by omega
    obtain ⟨gp, s, f⟩ := t.less nd 0 hj
    exact ⟨gp, s, fun Sh' e q => .fz (e.l h) (f Sh' e q)⟩
  | _, _, _, _, .dfz h l t, nd, j, hj => by
    obtain rfl : j = 0 := by omega
    obtain ⟨gp, s, f⟩ := t.less nd 0 hj
    exact ⟨gp, s, fun Sh' e q => .dfz (e _ _ h) l (f Sh' e q)⟩
  | _, _, _, _, .ifz h l t, nd, j, hj => by
    obtain rfl : j = 0 := by omega
    obtain ⟨gp, s, f⟩ := t.less nd 0 hj
    exact ⟨gp, s, fun Sh' e q => .ifz (e _ _ h) l (f Sh' e q)⟩
  | _, _, _, _, .own (a := a) (fp := fp) h t, nd, 0, hj => by
    obtain ⟨gp, s, f⟩ := t.less (List.nodup_cons.mp nd).2 0 (Nat.zero_le _)
    refine ⟨[], List.nil_sublist _, fun Sh' e q => ?_⟩
    have r := f Sh' e fun a m _ => q a (List.mem_cons_of_mem _ m) (by simp)
    exact r.zero ▸ .fz (.inl (.inl ((q a List.mem_cons_self (by simp)).trans h))) r
  | _, _, _, _, .down (a := a) (fp := fp) h l t, nd, 0, hj => by
    obtain ⟨gp, s, f⟩ := t.less (List.nodup_cons.mp nd).2 0 (Nat.zero_le _)
    refine ⟨[], List.nil_sublist _, fun Sh' e q => ?_⟩
    have r := f Sh' e fun a m _ => q a (List.mem_cons_of_mem _ m) (by simp)
    exact r.zero ▸ .dfz ((q a List.mem_cons_self (by simp)).trans h) l r
  | _, _, _, _, .iown (a := a) (fp := fp) h l t, nd, 0, hj => by
    obtain ⟨gp, s, f⟩ := t.less (List.nodup_cons.mp nd).2 0 (Nat.zero_le _)
    refine ⟨[], List.nil_sublist _, fun Sh' e q => ?_⟩
    have r := f Sh' e fun a m _ => q a (List.mem_cons_of_mem _ m) (by simp)
    exact r.zero ▸ .ifz ((q a List.mem_cons_self (by simp)).trans h) l r
  | _, _, _, _, .own (a := a) (fp := fp) h t, nd, j + 1, hj => by
    obtain ⟨n1, n2⟩ := List.nodup_cons.mp nd
    obtain ⟨gp, s, f⟩ := t.less n2 j (by omega)
    exact ⟨a :: gp, s.cons_cons a, fun Sh' e q => .own h (f Sh' e fun b m n => q b (List.mem_cons_of_mem _ m) fun z => (List.mem_cons.mp z).elim (fun w => n1 (w ▸ m)) n)⟩
  | _, _, _, _, .down (a := a) (fp := fp) h l t, nd, j + 1, hj => by
    obtain ⟨n1, n2⟩ := List.nodup_cons.mp nd
    obtain ⟨gp, s, f⟩ := t.less n2 j (by omega)
    exact ⟨a :: gp, s.cons_cons a, fun Sh' e q => .down h l (f Sh' e fun b m n => q b (List.mem_cons_of_mem _ m) fun z => (List.mem_cons.mp z).elim (fun w => n1 (w ▸ m)) n)⟩
  | _, _, _, _, .iown (a := a) (fp := fp) h l t, nd, j + 1, hj => by
    obtain ⟨n1, n2⟩ := List.nodup_cons.mp nd
    obtain ⟨gp, s, f⟩ := t.less n2 j (by omega)
    exact ⟨a :: gp, s.cons_cons a, fun Sh' e q => .iown h l (f Sh' e fun b m n => q b (List.mem_cons_of_mem _ m) fun z => (List.mem_cons.mp z).elim (fun w => n1 (w ▸ m)) n)⟩
theorem RpA.less : ∀ {k : Nat} {ds : List D} {vs : List V} {fp : List Addr}, RpA K Sh H k ds vs fp → fp.Nodup → ∀ j ≤ k, ∃ gp, gp.Sublist fp ∧ ∀ Sh' : Hp, Ex Sh Sh' → (∀ a ∈ fp, a ∉ gp → Sh' a = H a) → RpA K Sh' H j ds vs gp
  | _, _, _, _, .nil, _, _, _ => ⟨[], .slnil, fun _ _ _ => .nil⟩
  | _, _, _, _, .cons (f := f) (g := g) h t, nd, j, hj => by
    obtain ⟨n1, n2, n3⟩ := nodup_app nd
    obtain ⟨g1, s1, f1⟩ := h.less n1 j hj
    obtain ⟨g2, s2, f2⟩ := t.less n2 j hj
    refine ⟨g1 ++ g2, s1.append s2, fun Sh' e q => .cons (f1 Sh' e fun a m n => q a (List.mem_append_left _ m) fun z => ?_) (f2 Sh' e fun a m n => q a (List.mem_append_right _ m) fun z => ?_)⟩
    · exact (List.mem_append.mp z).elim n fun w => n3 a m (s2.subset w)
    · exact (List.mem_append.mp z).elim (fun w => n3 a (s1.subset w) m) n
end
end

/-! ### the state of a body -/
inductive Sl (K : PySem.W.Frag) (Sh H : Hp) : Gm → L2.St → List Addr → Prop where
  | nil : Sl K Sh H [] [] []
  | emp {Γ : Gm} {v : Option V} {σ : L2.St} {fp : List Addr} : Sl K Sh H Γ σ fp → Sl K Sh H (none :: Γ) (v :: σ) fp
  | cons {k : Nat} {d : D} {v : V} {Γ : Gm} {σ : L2.St} {f g : List Addr} : Rp K Sh H k d v f → Sl K Sh H Γ σ g → Sl K Sh H (some (k, d) :: Γ) (some v :: σ) (f ++ g)
/-- the slots Γ are told by σ in the heap H, of which Sh never changes and O is owned -/
structure Rps (K : PySem.W.Frag) (Γ : Gm) (σ : L2.St) (H Sh : Hp) (O : List Addr) : Prop where
  sl : Sl K Sh H Γ σ O
  nd : O.Nodup
  fr : ∀ a ∈ O, Sh a = none
  ex : Ex Sh H
/-- from one moment to a later one -/
structure Evo (H Sh : Hp) (O : List Addr) (H' Sh' : Hp) (O' : List Addr) : Prop where
  sh : Ex Sh Sh'
  keep : ∀ a o, H a = some o → a ∉ O → H' a = some o
  out : ∀ a, H a ≠ none → a ∉ O → Sh a = none → Sh' a = none
  own : ∀ a ∈ O', a ∈ O ∨ H a = none
section
variable {K : PySem.W.Frag} {Sh H Sh' H' Sh2 H2 : Hp} {O O' O2 P : List Addr} {Γ Γ' : Gm} {σ σ' : L2.St}
theorem Evo.refl : Evo H Sh O H Sh O := ⟨Ex.refl _, fun _ _ h _ => h, fun _ _ _ h => h, fun _ m => .inl m⟩
theorem Evo.trans (a : Evo H Sh O H' Sh' O') (b : Evo H' Sh' O' H2 Sh2 O2) : Evo H Sh O H2 Sh2 O2 := by
  have no : ∀ x o, H x = some o → x ∉ O → x ∉ O' := fun x o h n m => (a.own x m).elim n fun z => by rw [h] at z; cases z
  have some_of : ∀ x, H x ≠ none → ∃ o, H x = some o := fun x h => Option.ne_none_iff_exists'.mp h
  refine ⟨a.sh.trans b.sh, fun x o h n => b.keep x o (a.keep x o h n) (no x o h n), fun x h n z => ?_, fun x m => ?_⟩
  · obtain ⟨o, e⟩ := some_of x h
    exact b.out x (by rw [a.keep x o e n]; exact nofun) (no x o e n) (a.out x h n z)
  · rcases b.own x m with m | e
    · exact a.own x m
    · by_cases h : x ∈ O
      · exact .inl h
      · cases q : H x with
        | none => exact .inr rfl
        | some o => rw [a.keep x o q h] at e; cases e
/-- fewer owned ones at the end -/
theorem Evo.sub (a : Evo H Sh O H' Sh' O') (s : ∀ x ∈ O2, x ∈ O') : Evo H Sh O H' Sh' O2 := ⟨a.sh, a.keep, a.out, fun x m => a.own x (s x m)⟩
/-- with more that stands aside -/
theorem Evo.frame (a : Evo H Sh O H' Sh' O') (hp : ∀ x ∈ P, H x ≠ none) : Evo H Sh (P ++ O) H' Sh' (P ++ O') :=
  ⟨a.sh, fun x o h n => a.keep x o h fun m => n (List.mem_append_right _ m), fun x h n z => a.out x h (fun m => n (List.mem_append_right _ m)) z,
    fun x m => (List.mem_append.mp m).elim (fun m => .inl (List.mem_append_left _ m)) fun m => (a.own x m).imp (List.mem_append_right _) id⟩
theorem Sl.mono (e : Ex Sh Sh') : ∀ {Γ : Gm} {σ : L2.St} {fp : List Addr}, Sl K Sh H Γ σ fp → (∀ a ∈ fp, H' a = H a) → Sl K Sh' H' Γ σ fp
  | _, _, _, .nil, _ => .nil
  | _, _, _, .emp t, q => .emp (t.mono e q)
  | _, _, _, .cons h t, q => .cons (h.mono e fun a m => q a (List.mem_append_left _ m)) (t.mono e fun a m => q a (List.mem_append_right _ m))
theorem Sl.there : ∀ {Γ : Gm} {σ : L2.St} {fp : List Addr}, Sl K Sh H Γ σ fp → ∀ a ∈ fp, H a ≠ none
  | _, _, _, .nil, _, m => nomatch m
  | _, _, _, .emp t, a, m => t.there a m
  | _, _, _, .cons h t, a, m => (List.mem_append.mp m).elim (h.there a) (t.there a)
theorem Sl.length : ∀ {Γ : Gm} {σ : L2.St} {fp : List Addr}, Sl K Sh H Γ σ fp → σ.length = Γ.length
  | _, _, _, .nil => rfl
  | _, _, _, .emp t => congrArg (· + 1) t.length
  | _, _, _, .cons _ t => congrArg (· + 1) t.length
/-- what lies on the stack is kept while the rest goes on -/
theorem Rps.frame {d : Option DK} {v : Option V} {f : List Addr} (h : Sl K Sh H [d] [v] f) (r : Rps K Γ σ H Sh O) (nd : (f ++ O).Nodup) (fr : ∀ a ∈ f, Sh a = none) (e : Evo H Sh O H' Sh' O') (r' : Rps K Γ' σ' H' Sh' O') :
    Sl K Sh' H' [d] [v] f ∧ (f ++ O').Nodup ∧ (∀ a ∈ f, Sh' a = none) := by
  obtain ⟨n1, n2, n3⟩ := nodup_app nd
  have th := h.there
  refine ⟨h.mono e.sh fun a m => ?_, ?_, fun a m => e.out a (th a m) (n3 a m) (fr a m)⟩
  · obtain ⟨o, q⟩ := Option.ne_none_iff_exists'.mp (th a m)
    rw [e.keep a o q (n3 a m), q]
  · rw [List.nodup_append]
    refine ⟨n1, r'.nd, fun a m b n z => ?_⟩
    subst z
    exact (e.own a n).elim (n3 a m) (th a m)
end
end Rh
/-! Rh2: what an expression gives, as a function of the slots; the rules. -/
namespace Rh
open PySem L2
mutual
def D.imm : D → Bool
  | .non => true | .bl _ => true | .int _ => true | .str _ => true | .ref _ => true | .ty _ => true
  | .tup xs => immA xs
  | _ => false
def immA : List D → Bool
  | [] => true
  | d :: r => d.imm && immA r
end
section
variable {K : PySem.W.Frag} {Sh H Sh' H' : Hp}
mutual
theorem Rp.immut : ∀ {k : Nat} {d : D} {v : V} {fp : List Addr}, Rp K Sh H k d v fp → d.imm = true → fp = [] ∧ ∀ (j : Nat) (H' : Hp), Rp K Sh H' j d v []
  | _, _, _, _, .non, _ => ⟨rfl, fun _ _ => .non⟩
  | _, _, _, _, .bl, _ => ⟨rfl, fun _ _ => .bl⟩
  | _, _, _, _, .int, _ => ⟨rfl, fun _ _ => .int⟩
  | _, _, _, _, .str, _ => ⟨rfl, fun _ _ => .str⟩
  | _, _, _, _, .ref, _ => ⟨rfl, fun _ _ => .ref⟩
  | _, _, _, _, .ty, _ => ⟨rfl, fun _ _ => .ty⟩
  | _, _, _, _, .tup (ds := ds) h t, i => by
    have i' : immA ds = true := by simpa only [D.imm] using i
    obtain ⟨e, q⟩ := t.immut i'
    exact ⟨e, fun j H' => .tup h (q j H')⟩
  | _, _, _, _, .fz _ _, i => by simp [D.imm] at i
  | _, _, _, _, .own _ _, i => by simp [D.imm] at i
  | _, _, _, _, .dfz _ _ _, i => by simp [D.imm] at i
  | _, _, _, _, .down _ _ _, i => by simp [D.imm] at i
  | _, _, _, _, .ifz _ _ _, i => by simp [D.imm] at i
  | _, _, _, _, .iown _ _ _, i => by simp [D.imm] at i
theorem RpA.immut : ∀ {k : Nat} {ds : List D} {vs : List V} {fp : List Addr}, RpA K Sh H k ds vs fp → immA ds = true → fp = [] ∧ ∀ (j : Nat) (H' : Hp), RpA K Sh H' j ds vs []
  | _, _, _, _, .nil, _ => ⟨rfl, fun _ _ => .nil⟩
  | _, _, _, _, .cons h t, i => by
    rw [immA, Bool.and_eq_true] at i
    obtain ⟨e1, q1⟩ := h.immut i.1
    obtain ⟨e2, q2⟩ := t.immut i.2
    subst e1
    subst e2
    exact ⟨rfl, fun j H' => .cons (f := []) (g := []) (q1 j H') (q2 j H')⟩
end
end

/-! ### results -/
/-- an exception: its class, its fields -/
structure Xn where
  C : Addr
  ns : List Str
  vs : List D
inductive R (α : Type) where
  | ok (a : α) (Γ : Gm)
  | ex (x : Xn) (Γ : Gm)
def R.bind {α β : Type} (m : Option (R α)) (k : α → Gm → Option (R β)) : Option (R β) :=
  match m with
  | some (.ok a Γ) => k a Γ
  | some (.ex x Γ) => some (.ex x Γ)
  | none => none
/-- how an exception lies -/
def Xr (K : PySem.W.Frag) (Sh H : Hp) (x : Xn) (cls : Value) (od : Option Addr) : Prop :=
  cls = .ref x.C ∧ ((x.ns = [] ∧ od = none) ∨ ∃ dx ws, od = some dx ∧ Sh dx = some (.xd (x.ns.zip ws)) ∧ x.ns.length = x.vs.length ∧ RpA K Sh H 0 x.vs ws [])
section
variable (K : PySem.W.Frag) (W : WX)
def Got (σ : L2.St) (H Sh : Hp) (O : List Addr) (Q : VK) : R DK → Prop
  | .ok r Γ' => ∀ v H' Sh' O', Evo H Sh O H' Sh' O' → Rps K (some r :: Γ') (some v :: σ) H' Sh' O' → Q v H'
  | .ex x Γ' => ∀ cls od H' Sh' O', Evo H Sh O H' Sh' O' → Rps K Γ' σ H' Sh' O' → Xr K Sh' H' x cls od → W cls od σ H'
def GotA (σ : L2.St) (H Sh : Hp) (O : List Addr) (Q : List V → Hp → Prop) : R (List DK) → Prop
  | .ok rs Γ' => ∀ vs H' Sh' O', rs.length = vs.length → Evo H Sh O H' Sh' O' → Rps K (rs.map some ++ Γ') (vs.map some ++ σ) H' Sh' O' → Q vs H'
  | .ex x Γ' => ∀ cls od H' Sh' O', Evo H Sh O H' Sh' O' → Rps K Γ' σ H' Sh' O' → Xr K Sh' H' x cls od → W cls od σ H'
def GotT (σ : L2.St) (H Sh : Hp) (O : List Addr) (Q : Bool → Hp → Prop) : R Bool → Prop
  | .ok b Γ' => ∀ H' Sh' O', Evo H Sh O H' Sh' O' → Rps K Γ' σ H' Sh' O' → Q b H'
  | .ex x Γ' => ∀ cls od H' Sh' O', Evo H Sh O H' Sh' O' → Rps K Γ' σ H' Sh' O' → Xr K Sh' H' x cls od → W cls od σ H'
abbrev FE := Gm → Option (R DK)
abbrev FA := Gm → Option (R (List DK))
abbrev FT := Gm → Option (R Bool)
abbrev FP := Gm → Option DK
def SndE (t : TE) (f : FE) : Prop := ∀ Γ r, f Γ = some r → ∀ σ H Sh O, Rps K Γ σ H Sh O → ∀ Q, Got K W σ H Sh O Q r → t σ H Q
def SndA (t : TA) (f : FA) : Prop := ∀ Γ r, f Γ = some r → ∀ σ H Sh O, Rps K Γ σ H Sh O → ∀ Q, GotA K W σ H Sh O Q r → t σ H Q
def SndT (t : TT) (f : FT) : Prop := ∀ Γ r, f Γ = some r → ∀ σ H Sh O, Rps K Γ σ H Sh O → ∀ Q, GotT K W σ H Sh O Q r → t σ H Q
def SndP (t : TE) (f : FP) : Prop := ∀ Γ r, f Γ = some r → ∀ σ H Sh O, Rps K Γ σ H Sh O → ∃ v fp, Rp K Sh H r.1 r.2 v fp ∧ ∀ Q : VK, Q v H → t σ H Q
end
def PV (X : Cx) (W : WX) (e : Expr) (f : FE) : Prop := ∃ t, PE X e t ∧ SndE X.K W t f
def PAV (X : Cx) (W : WX) (es : List Expr) (f : FA) : Prop := ∃ t, PA X es t ∧ SndA X.K W t f
def TV (X : Cx) (W : WX) (e : Expr) (f : FT) : Prop := ∃ t, PT X e t ∧ SndT X.K W t f
/-- without a step of the heap -/
def PP (X : Cx) (e : Expr) (f : FP) : Prop := ∃ t, PE X e t ∧ SndP X.K t f

section
variable {K : PySem.W.Frag} {W : WX} {Γ Γ' : Gm} {σ σ' : L2.St} {H Sh H' Sh' : Hp} {O O' : List Addr}
/-! ### the stack -/
theorem Sl.cons_inv {k : Nat} {d : D} {s : Option V} (h : Sl K Sh H (some (k, d) :: Γ) (s :: σ) O) : ∃ v f g, s = some v ∧ O = f ++ g ∧ Rp K Sh H k d v f ∧ Sl K Sh H Γ σ g := by
  cases h with
  | cons h t => exact ⟨_, _, _, rfl, rfl, h, t⟩
theorem Rps.pop {k : Nat} {d : D} {v : V} (r : Rps K (some (k, d) :: Γ) (some v :: σ) H Sh O) : ∃ f g, O = f ++ g ∧ Rp K Sh H k d v f ∧ Rps K Γ σ H Sh g ∧ (f ++ g).Nodup ∧ ∀ a ∈ f, Sh a = none := by
  obtain ⟨v', f, g, e, rfl, h, t⟩ := r.sl.cons_inv
  cases e
  obtain ⟨n1, n2, n3⟩ := nodup_app r.nd
  exact ⟨f, g, rfl, h, ⟨t, n2, fun a m => r.fr a (List.mem_append_right _ m), r.ex⟩, r.nd, fun a m => r.fr a (List.mem_append_left _ m)⟩
theorem Rps.push {k : Nat} {d : D} {v : V} {f : List Addr} (r : Rps K Γ σ H Sh O) (h : Rp K Sh H k d v f) (nd : (f ++ O).Nodup) (fr : ∀ a ∈ f, Sh a = none) : Rps K (some (k, d) :: Γ) (some v :: σ) H Sh (f ++ O) :=
  ⟨.cons h r.sl, nd, fun a m => (List.mem_append.mp m).elim (fr a) (r.fr a), r.ex⟩
theorem Rps.push0 {k : Nat} {d : D} {v : V} (r : Rps K Γ σ H Sh O) (h : Rp K Sh H k d v []) : Rps K (some (k, d) :: Γ) (some v :: σ) H Sh O := r.push (f := []) h r.nd fun _ m => nomatch m
/-- the rest has gone on, what lay on top lies there still -/
theorem Rps.over {k : Nat} {d : D} {v : V} {f : List Addr} (h : Rp K Sh H k d v f) (r : Rps K Γ σ H Sh O) (nd : (f ++ O).Nodup) (fr : ∀ a ∈ f, Sh a = none) (e : Evo H Sh O H' Sh' O') (r' : Rps K Γ' σ' H' Sh' O') :
    Rps K (some (k, d) :: Γ') (some v :: σ') H' Sh' (f ++ O') ∧ Evo H Sh (f ++ O) H' Sh' (f ++ O') := by
  have s : Sl K Sh H [some (k, d)] [some v] (f ++ []) := .cons h .nil
  rw [List.append_nil] at s
  obtain ⟨q1, q2, q3⟩ := Rps.frame s r nd fr e r'
  obtain ⟨v', f', g', e1, e2, h', t'⟩ := q1.cons_inv
  cases e1
  cases t'
  rw [List.append_nil] at e2
  subst e2
  exact ⟨r'.push h' q2 q3, e.frame h.there⟩
/-- a part of what is owned is let go -/
def shedSh (Sh H : Hp) (fp gp : List Addr) : Hp := fun a => if a ∈ fp ∧ a ∉ gp then H a else Sh a
theorem shed {fp gp : List Addr} (nd : (fp ++ O).Nodup) (s : gp.Sublist fp) (fr : ∀ a ∈ fp ++ O, Sh a = none) (ex : Ex Sh H) (th : ∀ a ∈ fp, H a ≠ none) :
    Ex Sh (shedSh Sh H fp gp) ∧ Ex (shedSh Sh H fp gp) H ∧ (∀ a ∈ fp, a ∉ gp → shedSh Sh H fp gp a = H a) ∧ (∀ a ∈ gp ++ O, shedSh Sh H fp gp a = none) ∧ (gp ++ O).Nodup ∧ Evo H Sh (fp ++ O) H (shedSh Sh H fp gp) (gp ++ O) := by
  obtain ⟨n1, n2, n3⟩ := nodup_app nd
  have e1 : Ex Sh (shedSh Sh H fp gp) := fun a o h => by
    have n : a ∉ fp := fun m => by rw [fr a (List.mem_append_left _ m)] at h; cases h
    unfold shedSh; rw [if_neg fun z => n z.1]; exact h
  refine ⟨e1, fun a o h => ?_, fun a m n => by unfold shedSh; rw [if_pos ⟨m, n⟩], fun a m => ?_, nd.sublist (s.append (List.Sublist.refl _)), e1, fun a o h _ => h, fun a h n z => ?_, fun a m => .inl ?_⟩
  · unfold shedSh at h
    split at h
    · exact h
    · exact ex a o h
  · unfold shedSh
    rw [if_neg fun z => (List.mem_append.mp m).elim z.2 fun m => n3 a z.1 m]
    exact fr a ((List.mem_append.mp m).elim (fun m => List.mem_append_left _ (s.subset m)) (List.mem_append_right _))
  · unfold shedSh
    rw [if_neg fun q => n (List.mem_append_left _ q.1)]
    exact z
  · exact (List.mem_append.mp m).elim (fun m => List.mem_append_left _ (s.subset m)) (List.mem_append_right _)
/-- the top is owned less deep -/
theorem Rps.less {k : Nat} {d : D} {v : V} (r : Rps K (some (k, d) :: Γ) (some v :: σ) H Sh O) {j : Nat} (hj : j ≤ k) : ∃ Sh' O', Evo H Sh O H Sh' O' ∧ Rps K (some (j, d) :: Γ) (some v :: σ) H Sh' O' := by
  obtain ⟨f, g, rfl, h, r1, nd, fr⟩ := r.pop
  obtain ⟨gp, s, q⟩ := h.less (nodup_app nd).1 j hj
  obtain ⟨e1, e2, e3, e4, e5, e6⟩ := shed nd s r.fr r.ex h.there
  refine ⟨_, _, e6, ⟨.cons (q _ e1 e3) (r1.sl.mono e1 fun _ _ => rfl), e5, e4, e2⟩⟩
/-- a new object that is owned -/
theorem Rps.alloc {p : Addr} {o : HO} {k : Nat} {d : D} {fp : List Addr} (r : Rps K Γ σ H Sh O) (hp : H p = none) (nd : (fp ++ O).Nodup) (fr : ∀ a ∈ fp, Sh a = none) (th : ∀ a ∈ fp, H a ≠ none) (h : Rp K Sh (upd H p o) k d (.ref p) (p :: fp)) :
    Rps K (some (k, d) :: Γ) (some (.ref p) :: σ) (upd H p o) Sh ((p :: fp) ++ O) ∧ Evo H Sh (fp ++ O) (upd H p o) Sh ((p :: fp) ++ O) := by
  have nO : p ∉ fp ++ O := fun m => (List.mem_append.mp m).elim (fun m => th p m hp) fun m => r.sl.there p m hp
  have hS : Sh p = none := by
    cases q : Sh p with
    | none => rfl
    | some o => rw [r.ex p o q] at hp; cases hp
  refine ⟨⟨.cons h (r.sl.mono (Ex.refl _) fun a m => upd_ne fun z => r.sl.there a m (z ▸ hp)), List.nodup_cons.mpr ⟨nO, nd⟩, fun a m => ?_, r.ex.trans (Ex.new hp)⟩, Ex.refl _, fun a o h _ => by rw [upd_ne (ne_of_none h hp)]; exact h, fun a h _ z => z, fun a m => ?_⟩
  · rcases List.mem_cons.mp m with rfl | m
    · exact hS
    · exact (List.mem_append.mp m).elim (fr a) (r.fr a)
  · rcases List.mem_cons.mp m with rfl | m
    · exact .inr hp
    · exact .inl m
/-- a new object that never changes -/
theorem Rps.fix {p : Addr} {o : HO} {k : Nat} {d : D} {fp : List Addr} (r : Rps K Γ σ H Sh O) (hp : H p = none) (nd : (fp ++ O).Nodup) (fr : ∀ a ∈ fp, Sh a = none) (th : ∀ a ∈ fp, H a ≠ none) (h : Rp K (upd Sh p o) (upd H p o) k d (.ref p) fp) :
    Rps K (some (k, d) :: Γ) (some (.ref p) :: σ) (upd H p o) (upd Sh p o) (fp ++ O) ∧ Evo H Sh (fp ++ O) (upd H p o) (upd Sh p o) (fp ++ O) := by
  have nO : ∀ a ∈ fp ++ O, a ≠ p := fun a m z => (List.mem_append.mp m).elim (fun m => th a m (z ▸ hp)) fun m => r.sl.there a m (z ▸ hp)
  have hS : Sh p = none := by
    cases q : Sh p with
    | none => rfl
    | some o => rw [r.ex p o q] at hp; cases hp
  refine ⟨⟨.cons h (r.sl.mono (Ex.new hS) fun a m => upd_ne (nO a (List.mem_append_right _ m))), nd, fun a m => ?_, fun a u e => ?_⟩, Ex.new hS, fun a o h _ => by rw [upd_ne (ne_of_none h hp)]; exact h, fun a h _ z => ?_, fun a m => .inl m⟩
  · rw [upd_ne (nO a m)]
    exact (List.mem_append.mp m).elim (fr a) (r.fr a)
  · by_cases z : a = p
    · subst z
      rw [upd_same] at e ⊢
      exact e
    · rw [upd_ne z] at e ⊢
      exact r.ex a u e
  · by_cases q : a = p
    · exact (h (q ▸ hp)).elim
    · rw [upd_ne q]; exact z

/-! ### from a peek to a value -/
def fP (p : FP) : FE := fun Γ =>
  match p Γ with
  | some (k, d) => if d.imm = true then some (.ok (9, d) Γ) else if k = 0 then some (.ok (0, d) Γ) else none
  | none => none
theorem SndP.e {t : TE} {p : FP} (h : SndP K t p) : SndE K W t (fP p) := by
  intro Γ r e σ H Sh O R Q q
  unfold fP at e
  split at e
  · rename_i k d e1
    obtain ⟨v, fp, rp, run⟩ := h Γ _ e1 σ H Sh O R
    refine run Q ?_
    split at e
    · rename_i im
      cases e
      obtain ⟨rfl, rj⟩ := rp.immut im
      exact q v H Sh O Evo.refl (R.push0 (rj 9 H))
    · split at e
      · rename_i k0
        cases e
        subst k0
        obtain rfl := rp.zero
        exact q v H Sh O Evo.refl (R.push0 rp)
      · cases e
  · cases e
theorem Got.step {σ : L2.St} {Q : VK} {r : R DK} {H1 Sh1 : Hp} {O1 : List Addr} (e : Evo H Sh O H1 Sh1 O1) (q : Got K W σ H Sh O Q r) : Got K W σ H1 Sh1 O1 Q r := by
  cases r with
  | ok a Γ => exact fun v H' Sh' O' e2 R => q v H' Sh' O' (e.trans e2) R
  | ex x Γ => exact fun c od H' Sh' O' e2 R z => q c od H' Sh' O' (e.trans e2) R z
theorem GotA.step {σ : L2.St} {Q : List V → Hp → Prop} {r : R (List DK)} {H1 Sh1 : Hp} {O1 : List Addr} (e : Evo H Sh O H1 Sh1 O1) (q : GotA K W σ H Sh O Q r) : GotA K W σ H1 Sh1 O1 Q r := by
  cases r with
  | ok a Γ => exact fun v H' Sh' O' l e2 R => q v H' Sh' O' l (e.trans e2) R
  | ex x Γ => exact fun c od H' Sh' O' e2 R z => q c od H' Sh' O' (e.trans e2) R z
theorem GotT.step {σ : L2.St} {Q : Bool → Hp → Prop} {r : R Bool} {H1 Sh1 : Hp} {O1 : List Addr} (e : Evo H Sh O H1 Sh1 O1) (q : GotT K W σ H Sh O Q r) : GotT K W σ H1 Sh1 O1 Q r := by
  cases r with
  | ok a Γ => exact fun H' Sh' O' e2 R => q H' Sh' O' (e.trans e2) R
  | ex x Γ => exact fun c od H' Sh' O' e2 R z => q c od H' Sh' O' (e.trans e2) R z
end
end Rh
/-! Rh3: names, argument lists, calls and operators of values, displays. -/
namespace Rh
open PySem L2
def D.sv : D → Option V
  | .non => some .non | .bl b => some (.bl b) | .int i => some (.int i) | .str s => some (.str s) | .ref a => some (.ref a) | .ty n => some (.ty n)
  | _ => none
section
variable {K : PySem.W.Frag} {W : WX} {Γ Γ' : Gm} {σ σ' : L2.St} {H Sh H' Sh' : Hp} {O O' : List Addr}
theorem D.sv_rp {d : D} {v : V} (h : d.sv = some v) (k : Nat) : Rp K Sh H k d v [] := by
  cases d <;> cases h
  · exact .non
  · exact .bl
  · exact .int
  · exact .str
  · exact .ref
  · exact .ty
theorem D.sv_eq {d : D} {v v' : V} {k : Nat} {fp : List Addr} (h : d.sv = some v) (r : Rp K Sh H k d v' fp) : v' = v := by
  cases r <;> cases h <;> rfl
/-- each one lies somehow -/
def RpL (K : PySem.W.Frag) (Sh H : Hp) : List D → List V → Prop
  | [], [] => True
  | d :: ds, v :: vs => (∃ k fp, Rp K Sh H k d v fp) ∧ RpL K Sh H ds vs
  | _, _ => False
theorem RpA.l : ∀ {k : Nat} {ds : List D} {vs : List V} {fp : List Addr}, RpA K Sh H k ds vs fp → RpL K Sh H ds vs
  | _, _, _, _, .nil => trivial
  | _, _, _, _, .cons h t => ⟨⟨_, _, h⟩, t.l⟩
theorem RpL.length : ∀ {ds : List D} {vs : List V}, RpL K Sh H ds vs → ds.length = vs.length
  | [], [], _ => rfl
  | d :: ds, v :: vs, h => congrArg (· + 1) (RpL.length h.2)
  | [], _ :: _, h => h.elim
  | _ :: _, [], h => h.elim
theorem Rps.args : ∀ {as : List DK} {vs : List V} {O : List Addr}, Rps K (as.map some ++ Γ) (vs.map some ++ σ) H Sh O → as.length = vs.length → RpL K Sh H (as.map (·.2)) vs ∧ ∃ O', (∀ a ∈ O', a ∈ O) ∧ Rps K Γ σ H Sh O'
  | [], [], O, r, _ => ⟨trivial, O, fun _ m => m, r⟩
  | (k, d) :: as, v :: vs, O, r, l => by
    obtain ⟨f, g, rfl, h, r1, nd, fr⟩ := Rps.pop r
    obtain ⟨q, O', s, r2⟩ := Rps.args r1 (by simpa using l)
    exact ⟨⟨⟨k, f, h⟩, q⟩, O', fun a m => List.mem_append_right _ (s a m), r2⟩
  | [], _ :: _, _, _, l => by simp at l
  | _ :: _, [], _, _, l => by simp at l
/-- the stack is as long as the values are -/
theorem Rps.len_eq {as : List DK} {vs : List V} (r : Rps K (as.map some ++ Γ) (vs.map some ++ σ) H Sh O) (r' : σ.length = Γ.length) : as.length = vs.length := by
  have := r.sl.length
  simp at this
  omega
theorem Rps.length (r : Rps K Γ σ H Sh O) : σ.length = Γ.length := r.sl.length

/-! ### argument lists -/
def fNil : FA := fun Γ => some (.ok [] Γ)
def fCons (fa : FE) (fr : FA) : FA := fun Γ => R.bind (fa Γ) fun a Γ1 => R.bind (fr Γ1) fun as Γ2 => some (.ok (a :: as) Γ2)
theorem SndA.nil : SndA K W tNil fNil := by
  intro Γ r e σ H Sh O G Q q
  cases e
  exact q [] H Sh O rfl Evo.refl G
theorem SndA.cons {ta : TE} {tr : TA} {fa : FE} {fr : FA} (ha : SndE K W ta fa) (hr : SndA K W tr fr) : SndA K W (tCons ta tr) (fCons fa fr) := by
  intro Γ r e σ H Sh O G Q q
  unfold fCons R.bind at e
  cases ea : fa Γ with
  | none => rw [ea] at e; cases e
  | some r1 =>
    rw [ea] at e
    cases r1 with
    | ex x Γ1 =>
      cases e
      exact ha Γ _ ea σ H Sh O G _ q
    | ok a Γ1 =>
      refine ha Γ _ ea σ H Sh O G _ fun v H1 Sh1 O1 e1 G1 => ?_
      obtain ⟨f, g, rfl, h, r1, nd, fr'⟩ := G1.pop
      dsimp only at e
      cases eb : fr Γ1 with
      | none => rw [eb] at e; cases e
      | some r2 =>
        rw [eb] at e
        cases r2 with
        | ex x Γ2 =>
          cases e
          exact hr Γ1 _ eb σ H1 Sh1 g r1 _ fun c od H2 Sh2 O2 e2 G2 z => q c od H2 Sh2 O2 ((e1.sub fun a m => List.mem_append_right _ m).trans e2) G2 z
        | ok as Γ2 =>
          cases e
          refine hr Γ1 _ eb σ H1 Sh1 g r1 _ fun vs H2 Sh2 O2 l2 e2 G2 => ?_
          obtain ⟨G3, e3⟩ := Rps.over h r1 nd fr' e2 G2
          exact q (v :: vs) H2 Sh2 _ (congrArg (· + 1) l2) (e1.trans e3) G3
abbrev FPA := Gm → Option (List DK)
def SndPA (K : PySem.W.Frag) (t : TA) (f : FPA) : Prop := ∀ Γ r, f Γ = some r → ∀ σ H Sh O, Rps K Γ σ H Sh O → ∃ vs, RpL K Sh H (r.map (·.2)) vs ∧ ∀ Q : List V → Hp → Prop, Q vs H → t σ H Q
def pNil : FPA := fun _ => some []
def pCons (fa : FP) (fr : FPA) : FPA := fun Γ => match fa Γ with
  | some a => match fr Γ with
    | some as => some (a :: as)
    | none => none
  | none => none
theorem SndPA.nil : SndPA K tNil pNil := by
  intro Γ r e σ H Sh O G
  cases e
  exact ⟨[], trivial, fun Q q => q⟩
theorem SndPA.cons {ta : TE} {tr : TA} {fa : FP} {fr : FPA} (ha : SndP K ta fa) (hr : SndPA K tr fr) : SndPA K (tCons ta tr) (pCons fa fr) := by
  intro Γ r e σ H Sh O G
  unfold pCons at e
  cases ea : fa Γ with
  | none => rw [ea] at e; cases e
  | some a =>
    rw [ea] at e
    dsimp only at e
    cases eb : fr Γ with
    | none => rw [eb] at e; cases e
    | some as =>
      rw [eb] at e
      cases e
      obtain ⟨v, fp, h, q⟩ := ha Γ _ ea σ H Sh O G
      obtain ⟨vs, hs, qs⟩ := hr Γ _ eb σ H Sh O G
      exact ⟨v :: vs, ⟨⟨_, _, h⟩, hs⟩, fun Q z => q _ (qs _ z)⟩

/-! ### operations on values whose answer is plain -/
def CallP (K : PySem.W.Frag) (r : List V → Hp → VK → Prop) (g : List D → Option D) : Prop :=
  ∀ ds c, g ds = some c → ∀ vs H Sh, Ex Sh H → RpL K Sh H ds vs → ∃ v, c.sv = some v ∧ ∀ Q : VK, Q v H → r vs H Q
/-- operations that may make an object -/
def CallS (K : PySem.W.Frag) (W : WX) (r : List V → Hp → VK → Prop) (g : List DK → Gm → Option (R DK)) : Prop :=
  ∀ as Γ res, g as Γ = some res → ∀ vs σ H Sh O, Rps K (as.map some ++ Γ) (vs.map some ++ σ) H Sh O → as.length = vs.length → ∀ Q, Got K W σ H Sh O Q res → r vs H Q
def fCall (g : List D → Option D) (f : FA) : FE := fun Γ => R.bind (f Γ) fun as Γ1 => match g (as.map (·.2)) with
  | some c => some (.ok (9, c) Γ1)
  | none => none
def fCallS (g : List DK → Gm → Option (R DK)) (f : FA) : FE := fun Γ => R.bind (f Γ) g
def pCall (g : List D → Option D) (f : FPA) : FP := fun Γ => match f Γ with
  | some as => match g (as.map (·.2)) with
    | some c => some (9, c)
    | none => none
  | none => none
theorem SndE.call {t : TA} {f : FA} {r : List V → Hp → VK → Prop} {g : List D → Option D} (h : SndA K W t f) (c : CallP K r g) : SndE K W (tCB r t) (fCall g f) := by
  intro Γ res e σ H Sh O G Q q
  unfold fCall R.bind at e
  cases ea : f Γ with
  | none => rw [ea] at e; cases e
  | some r1 =>
    rw [ea] at e
    cases r1 with
    | ex x Γ1 =>
      cases e
      exact h Γ _ ea σ H Sh O G _ q
    | ok as Γ1 =>
      refine h Γ _ ea σ H Sh O G _ fun vs H1 Sh1 O1 l e1 G1 => ?_
      dsimp only at e
      split at e
      · rename_i d eg
        cases e
        obtain ⟨rl, O2, s, G2⟩ := G1.args l
        obtain ⟨v, sv, run⟩ := c _ _ eg vs H1 Sh1 G1.ex rl
        exact run _ (q v H1 Sh1 O2 (e1.sub s) (G2.push0 (D.sv_rp sv 9)))
      · cases e
theorem SndE.callS {t : TA} {f : FA} {r : List V → Hp → VK → Prop} {g : List DK → Gm → Option (R DK)} (h : SndA K W t f) (c : CallS K W r g) : SndE K W (tCB r t) (fCallS g f) := by
  intro Γ res e σ H Sh O G Q q
  unfold fCallS R.bind at e
  cases ea : f Γ with
  | none => rw [ea] at e; cases e
  | some r1 =>
    rw [ea] at e
    cases r1 with
    | ex x Γ1 =>
      cases e
      exact h Γ _ ea σ H Sh O G _ q
    | ok as Γ1 =>
      refine h Γ _ ea σ H Sh O G _ fun vs H1 Sh1 O1 l e1 G1 => ?_
      exact c as Γ1 res e vs σ H1 Sh1 O1 G1 l Q (q.step e1)
theorem SndP.call {t : TA} {f : FPA} {r : List V → Hp → VK → Prop} {g : List D → Option D} (h : SndPA K t f) (c : CallP K r g) : SndP K (tCB r t) (pCall g f) := by
  intro Γ res e σ H Sh O G
  unfold pCall at e
  split at e
  · rename_i as ea
    split at e
    · rename_i d eg
      cases e
      obtain ⟨vs, rl, q⟩ := h Γ _ ea σ H Sh O G
      obtain ⟨v, sv, run⟩ := c _ _ eg vs H Sh G.ex rl
      exact ⟨v, [], D.sv_rp sv 9, fun Q z => q _ (run _ z)⟩
    · cases e
  · cases e
end
end Rh
/-! Rh4: names, operators on plain values, displays, tests. -/
namespace Rh
open PySem L2
section
variable {K : PySem.W.Frag} {W : WX} {Γ Γ' : Gm} {σ σ' : L2.St} {H Sh H' Sh' : Hp} {O O' O2 : List Addr}
theorem Evo.left (e : Evo H Sh O2 H' Sh' O') (s : ∀ a ∈ O2, a ∈ O) : Evo H Sh O H' Sh' O' :=
  ⟨e.sh, fun a o h n => e.keep a o h fun m => n (s a m), fun a h n z => e.out a h (fun m => n (s a m)) z, fun a m => (e.own a m).imp (s a) id⟩
theorem Rps.perm (r : Rps K Γ σ H Sh O) (sl : Sl K Sh H Γ' σ' O2) (p : O2.Perm O) : Rps K Γ' σ' H Sh O2 := ⟨sl, p.nodup_iff.mpr r.nd, fun a m => r.fr a (p.mem_iff.mp m), r.ex⟩
theorem Sl.get : ∀ {Γ : Gm} {σ : L2.St} {O : List Addr} {i : Nat} {a : DK}, Sl K Sh H Γ σ O → Γ[i]? = some (some a) → ∃ v f g, σ[i]? = some (some v) ∧ Rp K Sh H a.1 a.2 v f ∧ Sl K Sh H (Γ.set i none) σ g ∧ (f ++ g).Perm O
  | _, _, _, i, _, .nil, e => by simp at e
  | _, _, _, 0, a, .emp t, e => by simp at e
  | _, _, _, 0, a, .cons h t, e => by
    simp at e
    subst e
    exact ⟨_, _, _, rfl, h, .emp t, .refl _⟩
  | _, _, _, i + 1, a, .emp t, e => by
    obtain ⟨v, f, g, e1, h, t', p⟩ := t.get (i := i) (a := a) (by simpa using e)
    exact ⟨v, f, g, by simpa using e1, h, .emp t', p⟩
  | _, _, _, i + 1, a, .cons (f := f0) (g := g0) h0 t, e => by
    obtain ⟨v, f, g, e1, h, t', p⟩ := t.get (i := i) (a := a) (by simpa using e)
    exact ⟨v, f, f0 ++ g, by simpa using e1, h, .cons h0 t', (List.perm_append_comm_assoc f f0 g).trans (p.append_left f0)⟩
theorem Sl.put : ∀ {Γ : Gm} {σ : L2.St} {g : List Addr} {i : Nat} {a : DK} {v : V} {f : List Addr}, Sl K Sh H Γ σ g → Γ[i]? = some none → σ[i]? = some (some v) → Rp K Sh H a.1 a.2 v f → ∃ O, Sl K Sh H (Γ.set i (some a)) σ O ∧ O.Perm (f ++ g)
  | _, _, _, i, _, _, _, .nil, e, _, _ => by simp at e
  | _, _, _, 0, a, v, f, .emp t, e, e1, h => by
    simp at e1
    subst e1
    exact ⟨_, .cons h t, .refl _⟩
  | _, _, _, 0, a, v, f, .cons h0 t, e, e1, h => by simp at e
  | _, _, _, i + 1, a, v, f, .emp t, e, e1, h => by
    obtain ⟨O, t', p⟩ := t.put (i := i) (a := a) (by simpa using e) (by simpa using e1) h
    exact ⟨O, .emp t', p⟩
  | _, _, _, i + 1, a, v, f, .cons (f := f0) (g := g0) h0 t, e, e1, h => by
    obtain ⟨O, t', p⟩ := t.put (i := i) (a := a) (by simpa using e) (by simpa using e1) h
    exact ⟨f0 ++ O, .cons h0 t', (p.append_left f0).trans (List.perm_append_comm_assoc f0 f g0)⟩
/-- what slot i holds is taken out, onto the stack -/
theorem Rps.take {i : Nat} {a : DK} (r : Rps K Γ σ H Sh O) (e : Γ[i]? = some (some a)) : ∃ v O', σ[i]? = some (some v) ∧ Rps K (some a :: Γ.set i none) (some v :: σ) H Sh O' ∧ O'.Perm O := by
  obtain ⟨v, f, g, e1, h, t, p⟩ := r.sl.get e
  exact ⟨v, f ++ g, e1, r.perm (.cons h t) p, p⟩
/-- and back -/
theorem Rps.back {i : Nat} {a : DK} {v : V} (r : Rps K (some a :: Γ) (some v :: σ) H Sh O) (e : Γ[i]? = some none) (e1 : σ[i]? = some (some v)) : ∃ O', Rps K (Γ.set i (some a)) σ H Sh O' ∧ O'.Perm O := by
  obtain ⟨v', f, g, e2, rfl, h, t⟩ := r.sl.cons_inv
  cases e2
  obtain ⟨O', t', p⟩ := t.put e e1 h
  exact ⟨O', r.perm t' p, p⟩
theorem Evo.of_perm (p : O2.Perm O) (ex : Ex Sh H) : Evo H Sh O H Sh O2 := ⟨Ex.refl _, fun _ _ h _ => h, fun _ _ _ h => h, fun _ m => .inl (p.mem_iff.mp m)⟩

/-! ### names -/
def pName (i : Nat) : FP := fun Γ => match Γ[i]? with
  | some (some a) => some a
  | _ => none
def fFz (i : Nat) : FE := fun Γ => match Γ[i]? with
  | some (some (_, d)) => some (.ok (0, d) (Γ.set i (some (0, d))))
  | _ => none
def fMv (i : Nat) : FE := fun Γ => match Γ[i]? with
  | some (some a) => some (.ok a (Γ.set i none))
  | _ => none
theorem SndP.name {i : Nat} : SndP K (tVar i) (pName i) := by
  intro Γ r e σ H Sh O G
  unfold pName at e
  split at e
  · rename_i a ea
    cases e
    obtain ⟨v, f, g, e1, h, _⟩ := G.sl.get ea
    exact ⟨v, f, h, fun Q q => ⟨v, e1, q⟩⟩
  · cases e
theorem SndE.mv {i : Nat} : SndE K W (tVar i) (fMv i) := by
  intro Γ r e σ H Sh O G Q q
  unfold fMv at e
  split at e
  · rename_i a ea
    cases e
    obtain ⟨v, O', e1, G', p⟩ := G.take ea
    exact ⟨v, e1, q v H Sh O' (Evo.of_perm p G.ex) G'⟩
  · cases e
theorem SndE.fz {i : Nat} : SndE K W (tVar i) (fFz i) := by
  intro Γ r e σ H Sh O G Q q
  unfold fFz at e
  split at e
  · rename_i k d ea
    cases e
    obtain ⟨v, O', e1, G', p⟩ := G.take ea
    obtain ⟨Sh2, O2, e2, G2⟩ := G'.less (Nat.zero_le k)
    obtain ⟨f, g, rfl, h, G3, nd, fr⟩ := G2.pop
    obtain rfl := h.zero
    have il : i < Γ.length := (List.getElem?_eq_some_iff.mp ea).1
    obtain ⟨O4, G4, p4⟩ := G2.back (i := i) (by simp [il]) e1
    rw [List.set_set] at G4
    refine ⟨v, e1, q v H Sh2 O4 (((Evo.of_perm p G.ex).trans e2).sub fun a m => p4.mem_iff.mp m) (G4.push0 h)⟩
  · cases e

/-! ### operators -/
def gII (f : Int → Int → Option D) : List D → Option D
  | [.int i, .int j] => f i j
  | _ => none
def r2 (r : R2) : List V → Hp → VK → Prop := fun vs H Q => match vs with
  | [x, y] => r x y H Q
  | _ => False
def r1 (r : V → Hp → VK → Prop) : List V → Hp → VK → Prop := fun vs H Q => match vs with
  | [x] => r x H Q
  | _ => False
theorem RpL.one {d : D} {vs : List V} (h : RpL K Sh H [d] vs) : ∃ v k fp, vs = [v] ∧ Rp K Sh H k d v fp := by
  match vs, h with
  | [v], h => obtain ⟨⟨k, fp, h⟩, _⟩ := h; exact ⟨v, k, fp, rfl, h⟩
theorem RpL.two {d e : D} {vs : List V} (h : RpL K Sh H [d, e] vs) : ∃ v w k fp j gp, vs = [v, w] ∧ Rp K Sh H k d v fp ∧ Rp K Sh H j e w gp := by
  match vs, h with
  | [v, w], h => obtain ⟨⟨k, fp, h⟩, ⟨j, gp, h'⟩, _⟩ := h; exact ⟨v, w, k, fp, j, gp, rfl, h, h'⟩
theorem CallP.ii {r : R2} {f : Int → Int → Option D} (h : ∀ i j c, f i j = some c → ∃ v, c.sv = some v ∧ ∀ (H : Hp) (Q : VK), Q v H → r (.int i) (.int j) H Q) : CallP K (r2 r) (gII f) := by
  intro ds c e vs H Sh x q
  unfold gII at e
  split at e
  · rename_i i j
    obtain ⟨v, w, _, _, _, _, rfl, h1, h2⟩ := q.two
    cases h1
    cases h2
    obtain ⟨v, sv, run⟩ := h i j c e
    exact ⟨v, sv, fun Q z => run H Q z⟩
  · cases e
def LINE : Nat := 16777216
theorem line_le {n : Nat} (h : n ≤ LINE) : n ≤ sizeLine := by rw [sizeLine_eq]; exact h
theorem line_lt {n : Nat} (h : n < LINE) : n < sizeLine := by rw [sizeLine_eq]; exact h
def gAdd : List D → Option D
  | [.int i, .int j] => some (.int (i + j))
  | [.str x, .str y] => if x.length + y.length ≤ LINE then some (.str (x ++ y)) else none
  | _ => none
def rAddA : R2 := fun x y H Q => (rI0 (fun i j => .int (i + j)) x y H Q) ∨ (∃ i j, x = .str i ∧ y = .str j ∧ i.length + j.length ≤ sizeLine ∧ Q (.str (i ++ j)) H)
theorem CallP.add : CallP K (r2 rAddA) gAdd := by
  intro ds c e vs H Sh x q
  unfold gAdd at e
  split at e
  · obtain ⟨v, w, _, _, _, _, rfl, h1, h2⟩ := q.two
    cases h1
    cases h2
    cases e
    exact ⟨_, rfl, fun Q z => .inl ⟨_, _, rfl, rfl, z⟩⟩
  · obtain ⟨v, w, _, _, _, _, rfl, h1, h2⟩ := q.two
    cases h1
    cases h2
    split at e
    · rename_i l
      cases e
      exact ⟨_, rfl, fun Q z => .inr ⟨_, _, rfl, rfl, line_le l, z⟩⟩
    · cases e
  · cases e
theorem op_addA {X : Cx} : OpR X (binaryOp .Add) rAddA := op_add.or op_add_str
def gSub : List D → Option D := gII fun i j => some (.int (i - j))
theorem CallP.sub : CallP K (r2 (rI0 fun i j => .int (i - j))) gSub := .ii fun i j c e => by
  cases e
  exact ⟨_, rfl, fun H Q z => ⟨i, j, rfl, rfl, z⟩⟩
def gMul : List D → Option D := gII fun i j => if i.natAbs.log2 + j.natAbs.log2 < 1000000 then some (.int (i * j)) else none
theorem CallP.mul : CallP K (r2 (rI CMulW fun i j => .int (i * j))) gMul := .ii fun i j c e => by
  split at e
  · rename_i h
    cases e
    exact ⟨_, rfl, fun H Q z => ⟨i, j, rfl, rfl, h, z⟩⟩
  · cases e
def gMod : List D → Option D := gII fun i j => if 0 < j then some (.int (i % j)) else none
theorem CallP.mod : CallP K (r2 (rI (fun _ j => 0 < j) fun i j => .int (i % j))) gMod := .ii fun i j c e => by
  split at e
  · rename_i h
    cases e
    exact ⟨_, rfl, fun H Q z => ⟨i, j, rfl, rfl, h, z⟩⟩
  · cases e
def gDiv : List D → Option D := gII fun i j => if 0 < j ∧ j.natAbs.log2 < 9000 then some (.int (i / j)) else none
theorem CallP.div : CallP K (r2 (rI CDivW fun i j => .int (i / j))) gDiv := .ii fun i j c e => by
  split at e
  · rename_i h
    cases e
    exact ⟨_, rfl, fun H Q z => ⟨i, j, rfl, rfl, h, z⟩⟩
  · cases e
/-- powers of any size -/
def CPowW (i j : Int) : Prop := 0 ≤ j ∧ (Builtin.Int.intBits i : Int) * j ≤ 2 ^ 27
theorem op_powW {X : Cx} : OpR X (binaryOp .Pow) (rI CPowW fun i j => .int (i ^ j.toNat)) := opI fun _ _ _ _ _ _ _ hc q => PyProof.Rows.pow_int hc.1 hc.2 q
def gPow : List D → Option D := gII fun i j => if 0 ≤ j ∧ (Builtin.Int.intBits i : Int) * j ≤ 2 ^ 27 then some (.int (i ^ j.toNat)) else none
theorem CallP.pow : CallP K (r2 (rI CPowW fun i j => .int (i ^ j.toNat))) gPow := .ii fun i j c e => by
  split at e
  · rename_i h
    cases e
    exact ⟨_, rfl, fun H Q z => ⟨i, j, rfl, rfl, h, z⟩⟩
  · cases e
def gCmp (f : Int → Int → Bool) : List D → Option D := gII fun i j => some (.bl (f i j))
theorem CallP.cmp {f : Int → Int → Bool} : CallP K (r2 (rI0 fun i j => .bl (f i j))) (gCmp f) := .ii fun i j c e => by
  cases e
  exact ⟨_, rfl, fun H Q z => ⟨i, j, rfl, rfl, z⟩⟩
def gNeg : List D → Option D
  | [.int i] => some (.int (-i))
  | _ => none
theorem CallP.neg : CallP K (r1 (rU fun i => .int (-i))) gNeg := by
  intro ds c e vs H Sh x q
  unfold gNeg at e
  split at e
  · obtain ⟨v, _, _, rfl, h1⟩ := q.one
    cases h1
    cases e
    exact ⟨_, rfl, fun Q z => ⟨_, rfl, z⟩⟩
  · cases e
def isNon : D → Bool
  | .non => true
  | _ => false
def gIsN : List D → Option D
  | [a, .non] => some (.bl (isNon a))
  | _ => none
def gNotN : List D → Option D
  | [a, .non] => some (.bl (!isNon a))
  | _ => none
theorem Rp.isNon {k : Nat} {d : D} {v : V} {fp : List Addr} (h : Rp K Sh H k d v fp) : decide (v = .non) = Rh.isNon d := by
  cases h <;> simp [Rh.isNon]
theorem CallP.isN : CallP K (r2 fun x y H Q => y = .non ∧ Q (.bl (decide (x = .non))) H) gIsN := by
  intro ds c e vs H Sh x q
  unfold gIsN at e
  split at e
  · obtain ⟨v, w, _, _, _, _, rfl, h1, h2⟩ := q.two
    cases h2
    cases e
    exact ⟨_, rfl, fun Q z => ⟨rfl, by rw [h1.isNon]; exact z⟩⟩
  · cases e
theorem CallP.notN : CallP K (r2 fun x y H Q => y = .non ∧ Q (.bl (!decide (x = .non))) H) gNotN := by
  intro ds c e vs H Sh x q
  unfold gNotN at e
  split at e
  · obtain ⟨v, w, _, _, _, _, rfl, h1, h2⟩ := q.two
    cases h2
    cases e
    exact ⟨_, rfl, fun Q z => ⟨rfl, by rw [h1.isNon]; exact z⟩⟩
  · cases e
end

/-! ### == of data -/
mutual
def toPy : D → Option PyData
  | .non => some .none | .bl b => some (.bool b) | .int i => some (.int i) | .str s => some (.str s)
  | .tup xs => (toPyA xs).map .tuple
  | .lst xs => (toPyA xs).map .list
  | _ => none
def toPyA : List D → Option (List PyData)
  | [] => some []
  | d :: r => match toPy d, toPyA r with
    | some p, some ps => some (p :: ps)
    | _, _ => none
end
section
variable {K : PySem.W.Frag} {W : WX} {Γ Γ' : Gm} {σ σ' : L2.St} {H Sh H' Sh' : Hp} {O O' O2 : List Addr}
mutual
theorem Rp.dp (ex : Ex Sh H) : ∀ {k : Nat} {d : D} {v : V} {fp : List Addr}, Rp K Sh H k d v fp → ∀ (p : PyData), toPy d = some p → Dp K H v p
  | _, _, _, _, .non => by intro _ e; rw [toPy] at e; cases e; exact .non
  | _, _, _, _, .bl => by intro _ e; rw [toPy] at e; cases e; exact .bl _
  | _, _, _, _, .int => by intro _ e; rw [toPy] at e; cases e; exact .int _
  | _, _, _, _, .str => by intro _ e; rw [toPy] at e; cases e; exact .str _
  | _, _, _, _, .ref => by intro _ e; simp [toPy] at e
  | _, _, _, _, .ty => by intro _ e; simp [toPy] at e
  | _, _, _, _, .tup (ds := ds) h t => by
    intro _ e
    rw [toPy] at e
    cases q : toPyA ds with
    | none => rw [q] at e; cases e
    | some ps => rw [q] at e; cases e; exact .tup (ex.t h) (t.dp ex _ q)
  | _, _, _, _, .fz (ds := ds) h t => by
    intro _ e
    rw [toPy] at e
    cases q : toPyA ds with
    | none => rw [q] at e; cases e
    | some ps => rw [q] at e; cases e; exact .lst (ex.l h) (t.dp ex _ q)
  | _, _, _, _, .own (ds := ds) h t => by
    intro _ e
    rw [toPy] at e
    cases q : toPyA ds with
    | none => rw [q] at e; cases e
    | some ps => rw [q] at e; cases e; exact .lst (SqL.of h) (t.dp ex _ q)
  | _, _, _, _, .dfz _ _ _ => by intro _ e; simp [toPy] at e
  | _, _, _, _, .down _ _ _ => by intro _ e; simp [toPy] at e
  | _, _, _, _, .ifz _ _ _ => by intro _ e; simp [toPy] at e
  | _, _, _, _, .iown _ _ _ => by intro _ e; simp [toPy] at e
theorem RpA.dp (ex : Ex Sh H) : ∀ {k : Nat} {ds : List D} {vs : List V} {fp : List Addr}, RpA K Sh H k ds vs fp → ∀ (ps : List PyData), toPyA ds = some ps → DpAll K H vs ps
  | _, _, _, _, .nil => by intro _ e; rw [toPyA] at e; cases e; exact .nil
  | _, _, _, _, .cons (d := d) (ds := ds) h t => by
    intro _ e
    rw [toPyA] at e
    cases q1 : toPy d with
    | none => rw [q1] at e; cases e
    | some p =>
      cases q2 : toPyA ds with
      | none => rw [q1, q2] at e; cases e
      | some ps => rw [q1, q2] at e; cases e; exact .cons (h.dp ex _ q1) (t.dp ex _ q2)
end
def eqD (a b : D) : Option Bool := match toPy a, toPy b with
  | some p, some q => if SeqAt.shaped p = true ∧ SeqAt.shaped q = true then some (PyData.eqv p q) else none
  | _, _ => none
/-- what a text equals, or not -/
def strE : D → D → Option Bool
  | .str a, .str b => some (decide (a = b))
  | .non, .str _ => some false | .str _, .non => some false
  | .int _, .str _ => some false | .str _, .int _ => some false
  | .bl _, .str _ => some false | .str _, .bl _ => some false
  | _, _ => none
def eqA (a b : D) : Option Bool := match strE a b with
  | some c => some c
  | none => eqD a b
def gEq : List D → Option D
  | [a, b] => (eqA a b).map .bl
  | _ => none
def gNe : List D → Option D
  | [a, b] => (eqA a b).map fun c => .bl (!c)
  | _ => none
def rEqA (K : PySem.W.Frag) : R2 := fun x y H Q => rEq x y H Q ∨ rEqD K x y H Q
def rNeA (K : PySem.W.Frag) : R2 := fun x y H Q => rNe x y H Q ∨ rNeD K x y H Q
theorem op_eqA {X : Cx} (hu : X.A.units + 64 < cLine) : OpR X (compareOp .Eq) (rEqA X.K) := op_eq.or (op_eqD hu)
theorem op_neA {X : Cx} (hu : X.A.units + 64 < cLine) : OpR X (compareOp .NotEq) (rNeA X.K) := op_ne.or (op_neD hu)
theorem Rp.strE {k j : Nat} {a b : D} {v w : V} {f g : List Addr} {c : Bool} (h1 : Rp K Sh H k a v f) (h2 : Rp K Sh H j b w g) (e : Rh.strE a b = some c) : scal v w = true ∧ decide (v = w) = c := by
  cases h1 <;> cases h2 <;> simp [Rh.strE] at e <;> subst e <;> simp [scal]
theorem CallP.eq : CallP K (r2 (rEqA K)) gEq := by
  intro ds c e vs H Sh x q
  unfold gEq at e
  split at e
  · rename_i a b
    obtain ⟨v, w, _, _, _, _, rfl, h1, h2⟩ := q.two
    unfold eqA at e
    split at e
    · rename_i c' es
      obtain ⟨s1, s2⟩ := h1.strE h2 es
      cases e
      exact ⟨_, rfl, fun Q z => .inl ⟨s1, s2 ▸ z⟩⟩
    · unfold eqD at e
      split at e
      · rename_i p p' e1 e2
        split at e
        · rename_i hs
          cases e
          exact ⟨_, rfl, fun Q z => .inr ⟨p, p', h1.dp x _ e1, h2.dp x _ e2, hs.1, hs.2, z⟩⟩
        · cases e
      · cases e
  · cases e
theorem CallP.ne : CallP K (r2 (rNeA K)) gNe := by
  intro ds c e vs H Sh x q
  unfold gNe at e
  split at e
  · rename_i a b
    obtain ⟨v, w, _, _, _, _, rfl, h1, h2⟩ := q.two
    unfold eqA at e
    split at e
    · rename_i c' es
      obtain ⟨s1, s2⟩ := h1.strE h2 es
      cases e
      exact ⟨_, rfl, fun Q z => .inl ⟨s1, s2 ▸ z⟩⟩
    · unfold eqD at e
      split at e
      · rename_i p p' e1 e2
        split at e
        · rename_i hs
          cases e
          exact ⟨_, rfl, fun Q z => .inr ⟨p, p', h1.dp x _ e1, h2.dp x _ e2, hs.1, hs.2, z⟩⟩
        · cases e
      · cases e
  · cases e
end
end Rh
/-! Rh5: displays, subscripts, built-ins, tests. -/
namespace Rh
open PySem L2
section
variable {K : PySem.W.Frag} {W : WX} {Γ Γ' : Gm} {σ σ' : L2.St} {H Sh H' Sh' : Hp} {O O' O2 : List Addr}
def minK : List DK → Nat
  | [] => 8
  | (k, d) :: r => if d.imm = true then minK r else min k (minK r)
theorem minK_ok : ∀ {as : List DK} {m : Nat}, m ≤ minK as → ∀ a ∈ as, a.2.imm = true ∨ m ≤ a.1
  | (k, d) :: r, m, h, a, ha => by
    unfold minK at h
    rcases List.mem_cons.mp ha with rfl | ha
    · split at h
      · exact .inl (by assumption)
      · exact .inr (by simp only; omega)
    · split at h
      · exact minK_ok h a ha
      · exact minK_ok (m := m) (by omega) a ha
theorem Rps.gather {m : Nat} : ∀ {as : List DK} {vs : List V} {O : List Addr}, Rps K (as.map some ++ Γ) (vs.map some ++ σ) H Sh O → as.length = vs.length → (∀ a ∈ as, a.2.imm = true ∨ m ≤ a.1) →
    ∃ Sh' fp O', RpA K Sh' H m (as.map (·.2)) vs fp ∧ Rps K Γ σ H Sh' O' ∧ (fp ++ O').Nodup ∧ (∀ a ∈ fp, Sh' a = none) ∧ Evo H Sh O H Sh' (fp ++ O')
  | [], [], O, r, _, _ => ⟨Sh, [], O, .nil, r, r.nd, (fun _ m => nomatch m), Evo.refl⟩
  | (k, d) :: as, v :: vs, O, r, l, hm => by
    obtain ⟨f, g, rfl, h, r1, nd, fr⟩ := Rps.pop r
    obtain ⟨Sh1, fp, O1, q, r2, nd2, fr2, e2⟩ := Rps.gather r1 (by simpa using l) fun a ha => hm a (List.mem_cons_of_mem _ ha)
    obtain ⟨n1, n2, n3⟩ := nodup_app nd
    have h1 : Rp K Sh1 H k d v f := h.mono e2.sh fun _ _ => rfl
    have dis : ∀ a ∈ f, a ∉ fp ++ O1 := fun a m z => (e2.own a z).elim (n3 a m) (h.there a m)
    have fr1 : ∀ a ∈ f, Sh1 a = none := fun a m => e2.out a (h.there a m) (n3 a m) (fr a m)
    have nd3 : (f ++ (fp ++ O1)).Nodup := by
      rw [List.nodup_append]
      exact ⟨n1, nd2, fun a m b n z => dis a m (z ▸ n)⟩
    obtain ⟨gp, s, hl⟩ : ∃ gp, gp.Sublist f ∧ ∀ Sh' : Hp, Ex Sh1 Sh' → (∀ a ∈ f, a ∉ gp → Sh' a = H a) → Rp K Sh' H m d v gp := by
      rcases hm (k, d) List.mem_cons_self with i | i
      · obtain ⟨rfl, rj⟩ := h1.immut i
        exact ⟨[], .slnil, fun Sh' e _ => (rj m H).mono e fun _ _ => rfl⟩
      · exact h1.less n1 m i
    have frA : ∀ a ∈ f ++ (fp ++ O1), Sh1 a = none := fun a m => (List.mem_append.mp m).elim (fr1 a) fun m => (List.mem_append.mp m).elim (fr2 a) (r2.fr a)
    obtain ⟨e3, e4, e5, e6, e7, e8⟩ := shed nd3 s frA r2.ex h1.there
    refine ⟨_, gp ++ fp, O1, .cons (hl _ e3 e5) (q.mono e3 fun _ _ => rfl), ⟨r2.sl.mono e3 fun _ _ => rfl, r2.nd, fun a m => e6 a (List.mem_append_right _ (List.mem_append_right _ m)), e4⟩, by rw [List.append_assoc]; exact e7, fun a m => e6 a ?_, ?_⟩
    · exact (List.mem_append.mp m).elim (fun m => List.mem_append_left _ m) fun m => List.mem_append_right _ (List.mem_append_left _ m)
    · rw [List.append_assoc]
      exact (Evo.frame e2 h.there).trans e8
  | [], _ :: _, _, _, l, _ => by simp at l
  | _ :: _, [], _, _, l, _ => by simp at l
def gLst (as : List DK) (Γ : Gm) : Option (R DK) := if as.length ≤ LINE then some (.ok (minK as + 1, .lst (as.map (·.2))) Γ) else none
def gTup (as : List DK) (Γ : Gm) : Option (R DK) := if as.length ≤ LINE then some (.ok (minK as, .tup (as.map (·.2))) Γ) else none
theorem CallS.lst : CallS K W (fun vs H Q => vs.length ≤ sizeLine ∧ ∀ p, H p = none → Q (.ref p) (upd H p (.lst vs))) gLst := by
  intro as Γ res e vs σ H Sh O G l Q q
  unfold gLst at e
  split at e
  · rename_i hl
    cases e
    refine ⟨line_le (l ▸ hl), fun p hp => ?_⟩
    obtain ⟨Sh', fp, O', r, G2, nd, fr, e2⟩ := G.gather l (m := minK as) fun a ha => minK_ok (Nat.le_refl _) a ha
    have hp2 : ∀ a ∈ fp, a ≠ p := fun a m z => r.there a m (z ▸ hp)
    obtain ⟨G3, e3⟩ := G2.alloc (o := .lst vs) hp nd fr r.there (.own upd_same (r.mono (Ex.refl _) fun a m => upd_ne (hp2 a m)))
    exact q _ _ _ _ (e2.trans e3) G3
  · cases e
theorem CallS.tup : CallS K W (fun vs H Q => vs.length ≤ sizeLine ∧ ∀ p, H p = none → Q (.ref p) (upd H p (.tup vs))) gTup := by
  intro as Γ res e vs σ H Sh O G l Q q
  unfold gTup at e
  split at e
  · rename_i hl
    cases e
    refine ⟨line_le (l ▸ hl), fun p hp => ?_⟩
    obtain ⟨Sh', fp, O', r, G2, nd, fr, e2⟩ := G.gather l (m := minK as) fun a ha => minK_ok (Nat.le_refl _) a ha
    have hp2 : ∀ a ∈ fp, a ≠ p := fun a m z => r.there a m (z ▸ hp)
    have hS : Sh' p = none := by
      cases z : Sh' p with
      | none => rfl
      | some o => rw [G2.ex p o z] at hp; cases hp
    obtain ⟨G3, e3⟩ := G2.fix (o := .tup vs) hp nd fr r.there (.tup (SqT.of upd_same) (r.mono (Ex.new hS) fun a m => upd_ne (hp2 a m)))
    exact q _ _ _ _ (e2.trans e3) G3
  · cases e
theorem SndE.lst {t : TA} {f : FA} (h : SndA K W t f) : SndE K W (tLst t) (fCallS gLst f) := SndE.callS h CallS.lst
theorem SndE.tup {t : TA} {f : FA} (h : SndA K W t f) : SndE K W (tTup t) (fCallS gTup f) := SndE.callS h CallS.tup

/-! ### subscripts -/
theorem RpA.get : ∀ {k : Nat} {ds : List D} {vs : List V} {fp : List Addr} {j : Nat} {d : D}, RpA K Sh H k ds vs fp → ds[j]? = some d → ∃ v f, vs[j]? = some v ∧ Rp K Sh H k d v f ∧ f.Sublist fp
  | _, _, _, _, j, _, .nil, e => by simp at e
  | _, _, _, _, 0, _, .cons h t, e => by
    simp at e
    subst e
    exact ⟨_, _, rfl, h, List.sublist_append_left _ _⟩
  | _, _, _, _, j + 1, _, .cons h t, e => by
    obtain ⟨v, f, e1, h', s⟩ := t.get (j := j) (by simpa using e)
    exact ⟨v, f, by simpa using e1, h', s.trans (List.sublist_append_right _ _)⟩
theorem RpA.at {k : Nat} {ds : List D} {vs : List V} {fp : List Addr} {i : Int} {d : D} (h : RpA K Sh H k ds vs fp) (e : atI ds i = some d) : ∃ v f, atI vs i = some v ∧ Rp K Sh H k d v f ∧ f.Sublist fp := by
  unfold atI at e ⊢
  rw [← h.length]
  cases q : ixN ds.length i with
  | none => rw [q] at e; cases e
  | some j =>
    rw [q] at e
    exact h.get (j := j) e
def ixD : DK → Int → Option DK
  | (k, .lst ds), i => (atI ds i).map fun d => (k - 1, d)
  | (k, .tup ds), i => (atI ds i).map fun d => (k, d)
  | (_, .str s), i => if s.length ≤ LINE then (atI s.cps.toList i).map fun c => (9, .str ⟨#[c]⟩) else none
  | _, _ => none
theorem Rp.ix {k : Nat} {a : D} {x : V} {fp : List Addr} {i : Int} {c : DK} (ex : Ex Sh H) (h : Rp K Sh H k a x fp) (e : ixD (k, a) i = some c) : ∃ v f, Rp K Sh H c.1 c.2 v f ∧ f.Sublist fp ∧ ∀ Q : VK, Q v H → rIx K x (.int i) H Q := by
  cases h with
  | tup h t =>
    simp only [ixD, Option.map_eq_some_iff] at e
    obtain ⟨d, q, rfl⟩ := e
    obtain ⟨v, f, e1, r, s⟩ := t.at q
    exact ⟨v, f, r, s, fun Q z => .inr (.inl ⟨_, _, _, _, rfl, rfl, ex.t h, e1, z⟩)⟩
  | fz h t =>
    simp only [ixD, Option.map_eq_some_iff] at e
    obtain ⟨d, q, rfl⟩ := e
    obtain ⟨v, f, e1, r, s⟩ := t.at q
    exact ⟨v, f, r, s, fun Q z => .inl ⟨_, _, _, _, rfl, rfl, ex.l h, e1, z⟩⟩
  | own h t =>
    simp only [ixD, Option.map_eq_some_iff] at e
    obtain ⟨d, q, rfl⟩ := e
    obtain ⟨v, f, e1, r, s⟩ := t.at q
    exact ⟨v, f, r, .cons _ s, fun Q z => .inl ⟨_, _, _, _, rfl, rfl, SqL.of h, e1, z⟩⟩
  | str =>
    simp only [ixD] at e
    split at e
    · rename_i l
      simp only [Option.map_eq_some_iff] at e
      obtain ⟨d, q, rfl⟩ := e
      · exact ⟨_, [], .str, List.nil_sublist _, fun Q z => .inr (.inr ⟨_, _, _, rfl, rfl, line_le l, q, z⟩)⟩
    · cases e
  | _ => simp [ixD] at e
def gIx (as : List DK) (Γ : Gm) : Option (R DK) := match as with
  | [a, (_, .int i)] => match ixD a i with
    | some c => some (.ok c Γ)
    | none => none
  | _ => none
def pIx (fa fb : FP) : FP := fun Γ => match fa Γ, fb Γ with
  | some a, some (_, .int i) => ixD a i
  | _, _ => none
theorem CallS.ix : CallS K W (r2 (rIx K)) gIx := by
  intro as Γ res e vs σ H Sh O G l Q q
  unfold gIx at e
  split at e
  · rename_i a j i
    split at e
    · rename_i c ec
      cases e
      match vs, l with
      | [x, y], _ =>
        obtain ⟨f, g, rfl, h, G1, nd, fr⟩ := Rps.pop (k := a.1) (d := a.2) G
        obtain ⟨f2, g2, rfl, h2, G2, nd2, fr2⟩ := Rps.pop G1
        cases h2
        obtain ⟨v, f', r, s, run⟩ := h.ix G.ex ec
        refine run _ (q v H Sh _ (Evo.refl.sub (O2 := f' ++ g2) fun a m => ?_) (G2.push r (nd.sublist (s.append (List.Sublist.refl _))) fun a m => fr a (s.subset m)))
        exact (List.mem_append.mp m).elim (fun m => List.mem_append_left _ (s.subset m)) fun m => List.mem_append_right _ (List.mem_append_right _ m)
    · cases e
  · cases e
theorem SndE.ix {ta tb : TE} {fa fb : FE} (ha : SndE K W ta fa) (hb : SndE K W tb fb) : SndE K W (tOp (rIx K) ta tb) (fCallS gIx (fCons fa (fCons fb fNil))) := SndE.callS (r := r2 (rIx K)) (SndA.cons ha (SndA.cons hb .nil)) CallS.ix
theorem SndP.ix {ta tb : TE} {fa fb : FP} (ha : SndP K ta fa) (hb : SndP K tb fb) : SndP K (tOp (rIx K) ta tb) (pIx fa fb) := by
  intro Γ r e σ H Sh O G
  unfold pIx at e
  split at e
  · rename_i a j i ea eb
    obtain ⟨x, fx, hx, runx⟩ := ha Γ _ ea σ H Sh O G
    obtain ⟨y, fy, hy, runy⟩ := hb Γ _ eb σ H Sh O G
    cases hy
    obtain ⟨v, f', rr, s, run⟩ := hx.ix G.ex e
    exact ⟨v, f', rr, fun Q z => runx _ (runy _ (run _ z))⟩
  · cases e
end
end Rh
/-! Rh6: built-ins with a plain answer, tests, statements. -/
namespace Rh
open PySem L2
section
variable {K : PySem.W.Frag} {W : WX} {Γ Γ' : Gm} {σ σ' : L2.St} {H Sh H' Sh' : Hp} {O O' O2 : List Addr}
/-! ### built-ins -/
def gLen : List D → Option D
  | [.lst ds] => some (.int ds.length)
  | [.tup ds] => some (.int ds.length)
  | [.str s] => if s.length ≤ LINE then some (.int s.length) else none
  | _ => none
theorem CallP.len : CallP K (fun xs H Q => ∃ x n, xs = [x] ∧ LenV K x H n ∧ Q (.int n) H) gLen := by
  intro ds c e vs H Sh x q
  unfold gLen at e
  split at e
  · obtain ⟨v, k, fp, rfl, h⟩ := q.one
    cases e
    cases h with
    | fz h t => exact ⟨_, rfl, fun Q z => ⟨_, _, rfl, .inl ⟨_, x.l h, rfl⟩, by rw [← t.length]; exact z⟩⟩
    | own h t => exact ⟨_, rfl, fun Q z => ⟨_, _, rfl, .inl ⟨_, SqL.of h, rfl⟩, by rw [← t.length]; exact z⟩⟩
  · obtain ⟨v, k, fp, rfl, h⟩ := q.one
    cases e
    cases h with
    | tup h t => exact ⟨_, rfl, fun Q z => ⟨_, _, rfl, .inr ⟨_, x.t h, rfl⟩, by rw [← t.length]; exact z⟩⟩
  · obtain ⟨v, k, fp, rfl, h⟩ := q.one
    cases h
    split at e
    · rename_i l
      cases e
      exact ⟨_, rfl, fun Q z => ⟨_, _, rfl, ⟨line_le l, rfl⟩, z⟩⟩
    · cases e
  · cases e
def gAbs : List D → Option D
  | [.int i] => some (.int (if i < 0 then -i else i))
  | _ => none
theorem CallP.abs : CallP K (fun xs H Q => ∃ i, xs = [.int i] ∧ Q (.int (if i < 0 then -i else i)) H) gAbs := by
  intro ds c e vs H Sh x q
  unfold gAbs at e
  split at e
  · obtain ⟨v, k, fp, rfl, h⟩ := q.one
    cases h
    cases e
    exact ⟨_, rfl, fun Q z => ⟨_, rfl, z⟩⟩
  · cases e
def gMax : List D → Option D := gII fun i j => some (.int (if j > i then j else i))
def gMin : List D → Option D := gII fun i j => some (.int (if j < i then j else i))
theorem CallP.max : CallP K (fun xs H Q => ∃ i j, xs = [.int i, .int j] ∧ Q (.int (if j > i then j else i)) H) gMax := by
  intro ds c e vs H Sh x q
  unfold gMax gII at e
  split at e
  · obtain ⟨v, w, _, _, _, _, rfl, h1, h2⟩ := q.two
    cases h1
    cases h2
    cases e
    exact ⟨_, rfl, fun Q z => ⟨_, _, rfl, z⟩⟩
  · cases e
theorem CallP.min : CallP K (fun xs H Q => ∃ i j, xs = [.int i, .int j] ∧ Q (.int (if j < i then j else i)) H) gMin := by
  intro ds c e vs H Sh x q
  unfold gMin gII at e
  split at e
  · obtain ⟨v, w, _, _, _, _, rfl, h1, h2⟩ := q.two
    cases h1
    cases h2
    cases e
    exact ⟨_, rfl, fun Q z => ⟨_, _, rfl, z⟩⟩
  · cases e
def gInt : List D → Option D
  | [.int i] => some (.int i)
  | [.bl k] => some (.int (if k then 1 else 0))
  | _ => none
theorem CallP.int : CallP K (fun xs H Q => (∃ i, xs = [.int i] ∧ Q (.int i) H) ∨ ∃ k, xs = [.bl k] ∧ Q (.int (if k then 1 else 0)) H) gInt := by
  intro ds c e vs H Sh x q
  unfold gInt at e
  split at e
  · obtain ⟨v, k, fp, rfl, h⟩ := q.one
    cases h
    cases e
    exact ⟨_, rfl, fun Q z => .inl ⟨_, rfl, z⟩⟩
  · obtain ⟨v, k, fp, rfl, h⟩ := q.one
    cases h
    cases e
    exact ⟨_, rfl, fun Q z => .inr ⟨_, rfl, z⟩⟩
  · cases e

/-! ### constants -/
theorem SndP.con {d : D} {v : V} (h : d.sv = some v) : SndP K (tC v) (fun _ => some (9, d)) := by
  intro Γ r e σ H Sh O G
  cases e
  exact ⟨v, [], D.sv_rp h 9, fun Q q => q⟩

/-! ### tests -/
def fTest (f : FE) : FT := fun Γ => R.bind (f Γ) fun a Γ1 => match a with
  | (_, .bl b) => some (.ok b Γ1)
  | _ => none
theorem Rps.tail {s : Option DK} {v : Option V} (r : Rps K (s :: Γ) (v :: σ) H Sh O) : ∃ O', (∀ a ∈ O', a ∈ O) ∧ Rps K Γ σ H Sh O' := by
  cases s with
  | none =>
    have h := r.sl
    cases h with
    | emp t => exact ⟨O, fun _ m => m, ⟨t, r.nd, r.fr, r.ex⟩⟩
  | some a =>
    obtain ⟨v', f, g, e, rfl, h, t⟩ := r.sl.cons_inv (k := a.1) (d := a.2)
    exact ⟨g, fun a m => List.mem_append_right _ m, ⟨t, (nodup_app r.nd).2.1, fun a m => r.fr a (List.mem_append_right _ m), r.ex⟩⟩
theorem SndT.test {t : TE} {f : FE} (h : SndE K W t f) : SndT K W (tTest t) (fTest f) := by
  intro Γ r e σ H Sh O G Q q
  unfold fTest R.bind at e
  cases ea : f Γ with
  | none => rw [ea] at e; cases e
  | some r1 =>
    rw [ea] at e
    cases r1 with
    | ex x Γ1 =>
      cases e
      exact h Γ _ ea σ H Sh O G _ q
    | ok a Γ1 =>
      refine h Γ _ ea σ H Sh O G _ fun v H1 Sh1 O1 e1 G1 => ?_
      dsimp only at e
      split at e
      · cases e
        obtain ⟨f, g, rfl, hb, G2, _, _⟩ := G1.pop
        cases hb
        exact ⟨_, rfl, q H1 Sh1 g (e1.sub fun a m => List.mem_append_right _ m) G2⟩
      · cases e
theorem SndT.tB {t : TE} {f : FE} (h : SndE K W t f) : SndT K W (tB t) (fTest f) := SndT.test h
/-- the truth of anything -/
def truD : D → Option Bool
  | .non => some false | .bl b => some b | .int i => some (i != 0)
  | .str s => if s.length ≤ LINE then some ((s.length : Int) != 0) else none
  | .lst ds => some (!ds.isEmpty)
  | .tup ds => some (!ds.isEmpty)
  | .dct ks vs => some (!ks.isEmpty)
  | _ => none
theorem Rp.tru {k : Nat} {d : D} {v : V} {fp : List Addr} {b : Bool} (ex : Ex Sh H) (h : Rp K Sh H k d v fp) (e : truD d = some b) : TruV K v H b := by
  have ee : ∀ {ds : List D} {vs : List V}, ds.length = vs.length → ds.isEmpty = vs.isEmpty := fun {ds vs} l => by
    cases ds <;> cases vs <;> first | rfl | (simp at l)
  cases h with
  | non => cases e; rfl
  | bl => cases e; rfl
  | int => cases e; rfl
  | str =>
    simp only [truD] at e
    split at e
    · rename_i l
      cases e
      exact ⟨line_le l, rfl⟩
    · cases e
  | ref => cases e
  | ty => cases e
  | tup h t => cases e; exact .inr (.inl ⟨_, ex.t h, by rw [ee t.length]⟩)
  | fz h t => cases e; exact .inl ⟨_, ex.l h, by rw [ee t.length]⟩
  | own h t => cases e; exact .inl ⟨_, SqL.of h, by rw [ee t.length]⟩
  | @dfz a ks vs ds fp h l t =>
    cases e
    refine .inr (.inr ⟨_, ex _ _ h, ?_⟩)
    have l2 : ks.length = vs.length := l.trans t.length
    cases ks <;> cases vs <;> first | rfl | (simp at l2)
  | @down k a ks vs ds fp h l t =>
    cases e
    refine .inr (.inr ⟨_, h, ?_⟩)
    have l2 : ks.length = vs.length := l.trans t.length
    cases ks <;> cases vs <;> first | rfl | (simp at l2)
  | ifz h l t => cases e
  | iown h l t => cases e
def fTru (f : FE) : FT := fun Γ => R.bind (f Γ) fun a Γ1 => match truD a.2 with
  | some b => some (.ok b Γ1)
  | none => none
def tTru (K : PySem.W.Frag) (ta : TE) : TT := fun σ H Q => ta σ H fun x H' => ∃ k, TruV K x H' k ∧ Q k H'
theorem SndT.tru {t : TE} {f : FE} (h : SndE K W t f) : SndT K W (tTru K t) (fTru f) := by
  intro Γ r e σ H Sh O G Q q
  unfold fTru R.bind at e
  cases ea : f Γ with
  | none => rw [ea] at e; cases e
  | some r1 =>
    rw [ea] at e
    cases r1 with
    | ex x Γ1 =>
      cases e
      exact h Γ _ ea σ H Sh O G _ q
    | ok a Γ1 =>
      refine h Γ _ ea σ H Sh O G _ fun v H1 Sh1 O1 e1 G1 => ?_
      dsimp only at e
      split at e
      · rename_i b eb
        cases e
        obtain ⟨f, g, rfl, hb, G2, _, _⟩ := G1.pop (k := a.1) (d := a.2)
        exact ⟨b, hb.tru G1.ex eb, q H1 Sh1 g (e1.sub fun a m => List.mem_append_right _ m) G2⟩
      · cases e
/-- .. of a name, a path: nothing moves -/
def fTruP (f : FP) : FT := fun Γ => match f Γ with
  | some a => match truD a.2 with
    | some b => some (.ok b Γ)
    | none => none
  | none => none
theorem SndT.truP {t : TE} {f : FP} (h : SndP K t f) : SndT K W (tTru K t) (fTruP f) := by
  intro Γ r e σ H Sh O G Q q
  unfold fTruP at e
  split at e
  · rename_i a ea
    split at e
    · rename_i b eb
      cases e
      obtain ⟨v, fp, rp, run⟩ := h Γ _ ea σ H Sh O G
      exact run _ ⟨b, rp.tru G.ex eb, q H Sh O Evo.refl G⟩
    · cases e
  · cases e
def fAnd (f g : FT) : FT := fun Γ => R.bind (f Γ) fun a Γ1 => if a = true then g Γ1 else some (.ok false Γ1)
def fOr (f g : FT) : FT := fun Γ => R.bind (f Γ) fun a Γ1 => if a = true then some (.ok true Γ1) else g Γ1
def fNot (f : FT) : FT := fun Γ => R.bind (f Γ) fun a Γ1 => some (.ok (!a) Γ1)
theorem SndT.and {t u : TT} {f g : FT} (h : SndT K W t f) (h' : SndT K W u g) : SndT K W (tAnd t u) (fAnd f g) := by
  intro Γ r e σ H Sh O G Q q
  unfold fAnd R.bind at e
  cases ea : f Γ with
  | none => rw [ea] at e; cases e
  | some r1 =>
    rw [ea] at e
    cases r1 with
    | ex x Γ1 => cases e; exact h Γ _ ea σ H Sh O G _ q
    | ok a Γ1 =>
      refine h Γ _ ea σ H Sh O G _ fun H1 Sh1 O1 e1 G1 => ?_
      cases a with
      | true => exact h' Γ1 r e σ H1 Sh1 O1 G1 Q (q.step e1)
      | false => cases e; exact q H1 Sh1 O1 e1 G1
theorem SndT.or {t u : TT} {f g : FT} (h : SndT K W t f) (h' : SndT K W u g) : SndT K W (tOr t u) (fOr f g) := by
  intro Γ r e σ H Sh O G Q q
  unfold fOr R.bind at e
  cases ea : f Γ with
  | none => rw [ea] at e; cases e
  | some r1 =>
    rw [ea] at e
    cases r1 with
    | ex x Γ1 => cases e; exact h Γ _ ea σ H Sh O G _ q
    | ok a Γ1 =>
      refine h Γ _ ea σ H Sh O G _ fun H1 Sh1 O1 e1 G1 => ?_
      cases a with
      | false => exact h' Γ1 r e σ H1 Sh1 O1 G1 Q (q.step e1)
      | true => cases e; exact q H1 Sh1 O1 e1 G1
theorem SndT.not {t : TT} {f : FT} (h : SndT K W t f) : SndT K W (tNot t) (fNot f) := by
  intro Γ r e σ H Sh O G Q q
  unfold fNot R.bind at e
  cases ea : f Γ with
  | none => rw [ea] at e; cases e
  | some r1 =>
    rw [ea] at e
    cases r1 with
    | ex x Γ1 => cases e; exact h Γ _ ea σ H Sh O G _ q
    | ok a Γ1 =>
      cases e
      exact h Γ _ ea σ H Sh O G _ fun H1 Sh1 O1 e1 G1 => q H1 Sh1 O1 e1 G1
/-! ### by tests, a value -/
def fIf (c : FT) (f g : FE) : FE := fun Γ => R.bind (c Γ) fun a Γ1 => if a = true then f Γ1 else g Γ1
theorem SndE.ifx {t : TT} {ta tb : TE} {c : FT} {f g : FE} (h : SndT K W t c) (ha : SndE K W ta f) (hb : SndE K W tb g) : SndE K W (tIf t ta tb) (fIf c f g) := by
  intro Γ r e σ H Sh O G Q q
  unfold fIf R.bind at e
  cases ea : c Γ with
  | none => rw [ea] at e; cases e
  | some r1 =>
    rw [ea] at e
    cases r1 with
    | ex x Γ1 =>
      cases e
      exact h Γ _ ea σ H Sh O G _ q
    | ok a Γ1 =>
      refine h Γ _ ea σ H Sh O G _ fun H1 Sh1 O1 e1 G1 => ?_
      cases a with
      | true => exact ha Γ1 r e σ H1 Sh1 O1 G1 Q (q.step e1)
      | false => exact hb Γ1 r e σ H1 Sh1 O1 G1 Q (q.step e1)
/-- and, or, not of bools, as values -/
def fAndV (f g : FE) : FE := fun Γ => R.bind (f Γ) fun a Γ1 => match a with
  | (_, .bl true) => g Γ1
  | (_, .bl false) => some (.ok (9, .bl false) Γ1)
  | _ => none
def fOrV (f g : FE) : FE := fun Γ => R.bind (f Γ) fun a Γ1 => match a with
  | (_, .bl true) => some (.ok (9, .bl true) Γ1)
  | (_, .bl false) => g Γ1
  | _ => none
theorem SndE.andV {ta tb : TE} {f g : FE} (ha : SndE K W ta f) (hb : SndE K W tb g) : SndE K W (tAndV ta tb) (fAndV f g) := by
  intro Γ r e σ H Sh O G Q q
  unfold fAndV R.bind at e
  cases ea : f Γ with
  | none => rw [ea] at e; cases e
  | some r1 =>
    rw [ea] at e
    cases r1 with
    | ex x Γ1 => cases e; exact ha Γ _ ea σ H Sh O G _ q
    | ok a Γ1 =>
      refine ha Γ _ ea σ H Sh O G _ fun v H1 Sh1 O1 e1 G1 => ?_
      dsimp only at e
      split at e
      · obtain ⟨f, g, rfl, hb', G2, _, _⟩ := G1.pop
        cases hb'
        exact ⟨true, rfl, hb Γ1 r e σ H1 Sh1 g G2 Q (q.step (e1.sub fun a m => List.mem_append_right _ m))⟩
      · obtain ⟨f, g, rfl, hb', G2, _, _⟩ := G1.pop
        cases hb'
        cases e
        exact ⟨false, rfl, q _ H1 Sh1 g (e1.sub fun a m => List.mem_append_right _ m) (G2.push0 .bl)⟩
      · cases e
theorem SndE.orV {ta tb : TE} {f g : FE} (ha : SndE K W ta f) (hb : SndE K W tb g) : SndE K W (tOrV ta tb) (fOrV f g) := by
  intro Γ r e σ H Sh O G Q q
  unfold fOrV R.bind at e
  cases ea : f Γ with
  | none => rw [ea] at e; cases e
  | some r1 =>
    rw [ea] at e
    cases r1 with
    | ex x Γ1 => cases e; exact ha Γ _ ea σ H Sh O G _ q
    | ok a Γ1 =>
      refine ha Γ _ ea σ H Sh O G _ fun v H1 Sh1 O1 e1 G1 => ?_
      dsimp only at e
      split at e
      · obtain ⟨f, g, rfl, hb', G2, _, _⟩ := G1.pop
        cases hb'
        cases e
        exact ⟨true, rfl, q _ H1 Sh1 g (e1.sub fun a m => List.mem_append_right _ m) (G2.push0 .bl)⟩
      · obtain ⟨f, g, rfl, hb', G2, _, _⟩ := G1.pop
        cases hb'
        exact ⟨false, rfl, hb Γ1 r e σ H1 Sh1 g G2 Q (q.step (e1.sub fun a m => List.mem_append_right _ m))⟩
      · cases e
def fNotV (f : FE) : FE := fun Γ => R.bind (f Γ) fun a Γ1 => match a with
  | (_, .bl b) => some (.ok (9, .bl (!b)) Γ1)
  | _ => none
theorem SndE.notV {ta : TE} {f : FE} (ha : SndE K W ta f) : SndE K W (tNotV ta) (fNotV f) := by
  intro Γ r e σ H Sh O G Q q
  unfold fNotV R.bind at e
  cases ea : f Γ with
  | none => rw [ea] at e; cases e
  | some r1 =>
    rw [ea] at e
    cases r1 with
    | ex x Γ1 => cases e; exact ha Γ _ ea σ H Sh O G _ q
    | ok a Γ1 =>
      refine ha Γ _ ea σ H Sh O G _ fun v H1 Sh1 O1 e1 G1 => ?_
      dsimp only at e
      split at e
      · obtain ⟨f, g, rfl, hb', G2, _, _⟩ := G1.pop
        cases hb'
        cases e
        exact ⟨_, rfl, q _ H1 Sh1 g (e1.sub fun a m => List.mem_append_right _ m) (G2.push0 .bl)⟩
      · cases e
end
end Rh
/-! Rh7: statements, targets, loops. -/
namespace Rh
open PySem L2
/-- how a statement ends -/
inductive S where
  | nx (Γ : Gm) | rt (a : DK) (Γ : Gm) | bk (Γ : Gm) | ct (Γ : Gm) | ex (x : Xn) (Γ : Gm)
/-- slots that are never stored anew -/
def Fx (fx : List Nat) (σ σ' : L2.St) : Prop := ∀ i ∈ fx, σ'[i]? = σ[i]?
theorem Fx.refl {fx : List Nat} {σ : L2.St} : Fx fx σ σ := fun _ _ => rfl
theorem Fx.trans {fx : List Nat} {σ σ1 σ2 : L2.St} (a : Fx fx σ σ1) (b : Fx fx σ1 σ2) : Fx fx σ σ2 := fun i m => (b i m).trans (a i m)
section
variable (K : PySem.W.Frag) (W : WX) (fx : List Nat)
def GotS (σ : L2.St) (H Sh : Hp) (O : List Addr) (E : Ends) : S → Prop
  | .nx Γ' => ∀ σ' H' Sh' O', Fx fx σ σ' → Evo H Sh O H' Sh' O' → Rps K Γ' σ' H' Sh' O' → E.nx σ' H'
  | .bk Γ' => ∀ σ' H' Sh' O', Fx fx σ σ' → Evo H Sh O H' Sh' O' → Rps K Γ' σ' H' Sh' O' → E.bk σ' H'
  | .ct Γ' => ∀ σ' H' Sh' O', Fx fx σ σ' → Evo H Sh O H' Sh' O' → Rps K Γ' σ' H' Sh' O' → E.ct σ' H'
  | .rt a Γ' => ∀ v σ' H' Sh' O', Fx fx σ σ' → Evo H Sh O H' Sh' O' → Rps K (some a :: Γ') (some v :: σ') H' Sh' O' → E.rt v H'
  | .ex x Γ' => ∀ cls od σ' H' Sh' O', Fx fx σ σ' → Evo H Sh O H' Sh' O' → Rps K Γ' σ' H' Sh' O' → Xr K Sh' H' x cls od → W cls od σ' H'
abbrev FS := Gm → Option S
def SndS (t : TS) (f : FS) : Prop := ∀ Γ r, f Γ = some r → ∀ σ H Sh O, Rps K Γ σ H Sh O → ∀ E, GotS K W fx σ H Sh O E r → t E σ H
/-- a target: from what is stored to the slots behind -/
abbrev FG := DK → Gm → Option Gm
def SndG (g : TG) (f : FG) : Prop := ∀ a Γ Γ', f a Γ = some Γ' → ∀ v σ H Sh O, Rps K (some a :: Γ) (some v :: σ) H Sh O → ∀ Q : L2.St → Hp → Prop,
  (∀ σ' H' Sh' O', Fx fx σ σ' → Evo H Sh O H' Sh' O' → Rps K Γ' σ' H' Sh' O' → Q σ' H') → g v σ H Q
end
def SV (X : Cx) (W : WX) (fx : List Nat) (st : Stmt) (f : FS) : Prop := ∃ t, PS X st t ∧ SndS X.K W fx t f
def SVs (X : Cx) (W : WX) (fx : List Nat) (sts : List Stmt) (f : FS) : Prop := ∃ t, PSs X sts t ∧ SndS X.K W fx t f
def GV (X : Cx) (fx : List Nat) (tg : Expr) (f : FG) : Prop := ∃ g, PG X tg g ∧ SndG X.K fx g f
section
variable {K : PySem.W.Frag} {W : WX} {fx : List Nat} {Γ Γ' : Gm} {σ σ' : L2.St} {H Sh H' Sh' : Hp} {O O' O2 : List Addr}
theorem GotS.step {E : Ends} {r : S} {σ1 : L2.St} {H1 Sh1 : Hp} {O1 : List Addr} (f : Fx fx σ σ1) (e : Evo H Sh O H1 Sh1 O1) (q : GotS K W fx σ H Sh O E r) : GotS K W fx σ1 H1 Sh1 O1 E r := by
  cases r with
  | nx Γ => exact fun σ' H' Sh' O' f2 e2 G => q σ' H' Sh' O' (f.trans f2) (e.trans e2) G
  | bk Γ => exact fun σ' H' Sh' O' f2 e2 G => q σ' H' Sh' O' (f.trans f2) (e.trans e2) G
  | ct Γ => exact fun σ' H' Sh' O' f2 e2 G => q σ' H' Sh' O' (f.trans f2) (e.trans e2) G
  | rt a Γ => exact fun v σ' H' Sh' O' f2 e2 G => q v σ' H' Sh' O' (f.trans f2) (e.trans e2) G
  | ex x Γ => exact fun c od σ' H' Sh' O' f2 e2 G z => q c od σ' H' Sh' O' (f.trans f2) (e.trans e2) G z
/-! ### rows -/
def gNx : FS := fun Γ => some (.nx Γ)
def gSeq (f g : FS) : FS := fun Γ => match f Γ with
  | some (.nx Γ1) => g Γ1
  | r => r
theorem SndS.nil : SndS K W fx tNext gNx := by
  intro Γ r e σ H Sh O G E q
  cases e
  exact q σ H Sh O Fx.refl Evo.refl G
theorem SndS.seq {t u : TS} {f g : FS} (h : SndS K W fx t f) (h' : SndS K W fx u g) : SndS K W fx (tSeq t u) (gSeq f g) := by
  intro Γ r e σ H Sh O G E q
  unfold gSeq at e
  cases ea : f Γ with
  | none => rw [ea] at e; cases e
  | some r1 =>
    rw [ea] at e
    refine h Γ _ ea σ H Sh O G _ ?_
    cases r1 with
    | nx Γ1 => exact fun σ1 H1 Sh1 O1 f1 e1 G1 => h' Γ1 r e σ1 H1 Sh1 O1 G1 E (q.step f1 e1)
    | bk Γ1 => cases e; exact q
    | ct Γ1 => cases e; exact q
    | rt a Γ1 => cases e; exact q
    | ex x Γ1 => cases e; exact q
def gBk : FS := fun Γ => some (.bk Γ)
def gCt : FS := fun Γ => some (.ct Γ)
theorem SndS.brk : SndS K W fx tBreak gBk := by
  intro Γ r e σ H Sh O G E q
  cases e
  exact q σ H Sh O Fx.refl Evo.refl G
theorem SndS.cont : SndS K W fx tCont gCt := by
  intro Γ r e σ H Sh O G E q
  cases e
  exact q σ H Sh O Fx.refl Evo.refl G
/-! ### from an expression on -/
def gOf (f : FE) (k : DK → Gm → Option S) : FS := fun Γ => match f Γ with
  | some (.ok a Γ1) => k a Γ1
  | some (.ex x Γ1) => some (.ex x Γ1)
  | none => none
theorem sndS_of {te : TE} {f : FE} {k : DK → Gm → Option S} {u : Ends → V → L2.St → Hp → Prop} (h : SndE K W te f)
    (hk : ∀ a Γ r, k a Γ = some r → ∀ v σ H Sh O, Rps K (some a :: Γ) (some v :: σ) H Sh O → ∀ E, GotS K W fx σ H Sh O E r → u E v σ H) : SndS K W fx (fun E σ H => te σ H fun v H1 => u E v σ H1) (gOf f k) := by
  intro Γ r e σ H Sh O G E q
  unfold gOf at e
  cases ea : f Γ with
  | none => rw [ea] at e; cases e
  | some r1 =>
    rw [ea] at e
    cases r1 with
    | ex x Γ1 =>
      cases e
      exact h Γ _ ea σ H Sh O G _ fun c od H1 Sh1 O1 e1 G1 z => q c od σ H1 Sh1 O1 Fx.refl e1 G1 z
    | ok a Γ1 => exact h Γ _ ea σ H Sh O G _ fun v H1 Sh1 O1 e1 G1 => hk a Γ1 r e v σ H1 Sh1 O1 G1 E (q.step Fx.refl e1)
def gRet (f : FE) : FS := gOf f fun a Γ => some (.rt a Γ)
theorem SndS.ret {te : TE} {f : FE} (h : SndE K W te f) : SndS K W fx (tRet te) (gRet f) :=
  sndS_of (u := fun E v _ H => E.rt v H) h fun a Γ r e v σ H Sh O G E q => by
    cases e
    exact q v σ H Sh O Fx.refl Evo.refl G
def gRetN : FS := fun Γ => some (.rt (9, .non) Γ)
theorem SndS.retN : SndS K W fx tRetN gRetN := by
  intro Γ r e σ H Sh O G E q
  cases e
  exact q .non σ H Sh O Fx.refl Evo.refl (G.push0 .non)
def gExp (f : FE) : FS := gOf f fun _ Γ => some (.nx Γ)
theorem SndS.exp {te : TE} {f : FE} (h : SndE K W te f) : SndS K W fx (tDrop te) (gExp f) :=
  sndS_of (u := fun E _ σ H => E.nx σ H) h fun a Γ r e v σ H Sh O G E q => by
    cases e
    obtain ⟨O', s, G'⟩ := G.tail
    exact q σ H Sh O' Fx.refl (Evo.refl.sub s) G'
def gAsg (f : FE) (g : FG) : FS := gOf f fun a Γ => (g a Γ).map .nx
theorem SndS.asg {te : TE} {f : FE} {tg : TG} {g : FG} (h : SndE K W te f) (hg : SndG K fx tg g) : SndS K W fx (tAsg te tg) (gAsg f g) :=
  sndS_of (u := fun E v σ H => tg v σ H E.nx) h fun a Γ r e v σ H Sh O G E q => by
    rw [Option.map_eq_some_iff] at e
    obtain ⟨Γ', e, rfl⟩ := e
    exact hg a Γ Γ' e v σ H Sh O G _ fun σ' H' Sh' O' f1 e1 G1 => q σ' H' Sh' O' f1 e1 G1
def gIfS (c : FT) (f g : FS) : FS := fun Γ => match c Γ with
  | some (.ok a Γ1) => if a = true then f Γ1 else g Γ1
  | some (.ex x Γ1) => some (.ex x Γ1)
  | none => none
theorem SndS.ifs {c : TT} {t u : TS} {fc : FT} {f g : FS} (hc : SndT K W c fc) (h : SndS K W fx t f) (h' : SndS K W fx u g) : SndS K W fx (tIfS c t u) (gIfS fc f g) := by
  intro Γ r e σ H Sh O G E q
  unfold gIfS at e
  cases ea : fc Γ with
  | none => rw [ea] at e; cases e
  | some r1 =>
    rw [ea] at e
    cases r1 with
    | ex x Γ1 =>
      cases e
      exact hc Γ _ ea σ H Sh O G _ fun c od H1 Sh1 O1 e1 G1 z => q c od σ H1 Sh1 O1 Fx.refl e1 G1 z
    | ok a Γ1 =>
      refine hc Γ _ ea σ H Sh O G _ fun H1 Sh1 O1 e1 G1 => ?_
      cases a with
      | true => exact h Γ1 r e σ H1 Sh1 O1 G1 E (q.step Fx.refl e1)
      | false => exact h' Γ1 r e σ H1 Sh1 O1 G1 E (q.step Fx.refl e1)

/-! ### targets -/
theorem Sl.set : ∀ {Γ : Gm} {σ : L2.St} {g : List Addr} {i : Nat} {a : DK} {v : V} {f : List Addr}, Sl K Sh H Γ σ g → i < Γ.length → Rp K Sh H a.1 a.2 v f → ∃ O, Sl K Sh H (Γ.set i (some a)) (σ.set i (some v)) O ∧ ∃ g', g'.Sublist g ∧ O.Perm (f ++ g')
  | _, _, _, i, _, _, _, .nil, e, _ => by simp at e
  | _, _, _, 0, a, v, f, .emp t, e, h => ⟨_, .cons h t, _, .refl _, .refl _⟩
  | _, _, _, 0, a, v, f, .cons h0 t, e, h => ⟨_, .cons h t, _, List.sublist_append_right _ _, .refl _⟩
  | _, _, _, i + 1, a, v, f, .emp t, e, h => by
    obtain ⟨O, t', g', s, p⟩ := t.set (i := i) (by simpa using e) h
    exact ⟨O, .emp t', g', s, p⟩
  | _, _, _, i + 1, a, v, f, .cons (f := f0) (g := g0) h0 t, e, h => by
    obtain ⟨O, t', g', s, p⟩ := t.set (i := i) (by simpa using e) h
    exact ⟨f0 ++ O, .cons h0 t', f0 ++ g', s.append_left f0, (p.append_left f0).trans (List.perm_append_comm_assoc f0 f g')⟩
theorem Rps.set {i : Nat} {a : DK} {v : V} (r : Rps K (some a :: Γ) (some v :: σ) H Sh O) (hi : i < Γ.length) : ∃ O', Rps K (Γ.set i (some a)) (σ.set i (some v)) H Sh O' ∧ ∀ x ∈ O', x ∈ O := by
  obtain ⟨f, g, rfl, h, r1, nd, fr⟩ := r.pop (k := a.1) (d := a.2)
  obtain ⟨O', t, g', s, p⟩ := r1.sl.set hi h
  have sub : ∀ x ∈ O', x ∈ f ++ g := fun x m => (List.mem_append.mp (p.mem_iff.mp m)).elim (List.mem_append_left _) fun m => List.mem_append_right _ (s.subset m)
  exact ⟨O', ⟨t, p.nodup_iff.mpr (nd.sublist (s.append_left f)), fun x m => r.fr x (sub x m), r.ex⟩, sub⟩
def hName (fx : List Nat) (i : Nat) : FG := fun a Γ => if i < Γ.length ∧ i ∉ fx then some (Γ.set i (some a)) else none
theorem SndG.name {i : Nat} : SndG K fx (gName i) (hName fx i) := by
  intro a Γ Γ' e v σ H Sh O G Q q
  unfold hName at e
  split at e
  · rename_i hi
    cases e
    obtain ⟨O', G', s⟩ := G.set hi.1
    exact q _ H Sh O' (fun j m => List.getElem?_set_ne fun z : i = j => hi.2 (by rw [z]; exact m)) (Evo.refl.sub s) G'
  · cases e
/-- several targets -/
abbrev FGs := List DK → Gm → Option Gm
def SndGs (K : PySem.W.Frag) (fx : List Nat) (g : TGs) (f : FGs) : Prop := ∀ as Γ Γ', f as Γ = some Γ' → ∀ vs σ H Sh O, Rps K (as.map some ++ Γ) (vs.map some ++ σ) H Sh O → as.length = vs.length → ∀ Q : L2.St → Hp → Prop,
  (∀ σ' H' Sh' O', Fx fx σ σ' → Evo H Sh O H' Sh' O' → Rps K Γ' σ' H' Sh' O' → Q σ' H') → g vs σ H Q
def hNil : FGs := fun as Γ => match as with
  | [] => some Γ
  | _ => none
theorem SndGs.nil : SndGs K fx gNil hNil := by
  intro as Γ Γ' e vs σ H Sh O G l Q q
  unfold hNil at e
  split at e
  · cases e
    cases vs with
    | nil => exact ⟨rfl, q σ H Sh O Fx.refl Evo.refl G⟩
    | cons _ _ => simp at l
  · cases e
theorem Rps.overA : ∀ {as : List DK} {vs : List V} {P : List Addr}, Rps K (as.map some ++ Γ) (vs.map some ++ σ) H Sh P → as.length = vs.length → ∃ O, (∀ a ∈ O, a ∈ P) ∧ Rps K Γ σ H Sh O ∧
    ∀ Γ' σ' H' Sh' O', Evo H Sh O H' Sh' O' → Rps K Γ' σ' H' Sh' O' → ∃ P', Rps K (as.map some ++ Γ') (vs.map some ++ σ') H' Sh' P' ∧ Evo H Sh P H' Sh' P'
  | [], [], P, r, _ => ⟨P, fun _ m => m, r, fun Γ' σ' H' Sh' O' e r' => ⟨O', r', e⟩⟩
  | (k, d) :: as, v :: vs, P, r, l => by
    obtain ⟨f, g, rfl, h, r1, nd, fr⟩ := Rps.pop r
    obtain ⟨O, s, r2, F⟩ := Rps.overA r1 (by simpa using l)
    refine ⟨O, fun a m => List.mem_append_right _ (s a m), r2, fun Γ' σ' H' Sh' O' e r' => ?_⟩
    obtain ⟨P', r3, e3⟩ := F Γ' σ' H' Sh' O' e r'
    obtain ⟨r4, e4⟩ := Rps.over h r1 nd fr e3 r3
    exact ⟨_, r4, e4⟩
  | [], _ :: _, _, _, l => by simp at l
  | _ :: _, [], _, _, l => by simp at l
theorem Sl.swap {a : DK} {v : V} : ∀ {as : List DK} {vs : List V} {f O : List Addr}, as.length = vs.length → Rp K Sh H a.1 a.2 v f → Sl K Sh H (as.map some ++ Γ) (vs.map some ++ σ) O → ∃ O', Sl K Sh H (as.map some ++ some a :: Γ) (vs.map some ++ some v :: σ) O' ∧ O'.Perm (f ++ O)
  | [], [], f, O, _, h, t => ⟨_, .cons h t, .refl _⟩
  | (k, d) :: as, w :: vs, f, O, l, h, t => by
    obtain ⟨v', f', g', e, rfl, h', t'⟩ := Sl.cons_inv t
    cases e
    obtain ⟨O', t2, p⟩ := Sl.swap (by simpa using l) h t'
    exact ⟨f' ++ O', .cons h' t2, (p.append_left f').trans (List.perm_append_comm_assoc f' f g')⟩
  | [], _ :: _, _, _, l, _, _ => by simp at l
  | _ :: _, [], _, _, l, _, _ => by simp at l
def hCons (f : FG) (fs : FGs) : FGs := fun as Γ => match as with
  | a :: r => match f a Γ with
    | some Γ1 => fs r Γ1
    | none => none
  | [] => none
theorem SndGs.cons {g : TG} {gs : TGs} {f : FG} {fs : FGs} (h : SndG K fx g f) (hs : SndGs K fx gs fs) : SndGs K fx (gCons g gs) (hCons f fs) := by
  intro as Γ Γ' e vs σ H Sh O G l Q q
  unfold hCons at e
  split at e
  · rename_i a r
    split at e
    · rename_i Γ1 e1
      match vs, l with
      | v :: vr, l =>
        have l' : r.length = vr.length := by simpa using l
        obtain ⟨fa, ga, rfl, ha, G1, nd, fr⟩ := Rps.pop (k := a.1) (d := a.2) G
        obtain ⟨O', t, p⟩ := Sl.swap l' ha G1.sl
        have G2 : Rps K (r.map some ++ some a :: Γ) (vr.map some ++ some v :: σ) H Sh O' := ⟨t, p.nodup_iff.mpr nd, fun x m => (List.mem_append.mp (p.mem_iff.mp m)).elim (fr x) (G1.fr x), G1.ex⟩
        obtain ⟨O2, s, G3, F⟩ := Rps.overA G2 l'
        refine ⟨v, vr, rfl, h a Γ Γ1 e1 v σ H Sh O2 G3 _ fun σ1 H1 Sh1 O3 f1 ev1 G4 => ?_⟩
        obtain ⟨P', G5, ev5⟩ := F Γ1 σ1 H1 Sh1 O3 ev1 G4
        refine hs r Γ1 Γ' e vr σ1 H1 Sh1 P' G5 l' Q fun σ2 H2 Sh2 O4 f2 ev2 G6 => ?_
        exact q σ2 H2 Sh2 O4 (f1.trans f2) ((ev5.left fun x m => p.mem_iff.mp m).trans ev2) G6
    · cases e
  · cases e
theorem RpA.stack {k : Nat} : ∀ {ds : List D} {vs : List V} {fp O : List Addr}, RpA K Sh H k ds vs fp → Sl K Sh H Γ σ O → Sl K Sh H ((ds.map fun d => (k, d)).map some ++ Γ) (vs.map some ++ σ) (fp ++ O)
  | _, _, _, _, .nil, t => t
  | _, _, _, _, .cons h t, u => by
    rw [List.append_assoc]
    exact .cons h (t.stack u)
def hTup (n : Nat) (fs : FGs) : FG := fun a Γ => match a with
  | (k, .tup ds) => if ds.length = n then fs (ds.map fun d => (k, d)) Γ else none
  | _ => none
theorem SndG.tup {n : Nat} {gs : TGs} {fs : FGs} (h : SndGs K fx gs fs) : SndG K fx (L2.gTup K n gs) (hTup n fs) := by
  intro a Γ Γ' e v σ H Sh O G Q q
  unfold hTup at e
  split at e
  · rename_i k ds
    split at e
    · rename_i hl
      obtain ⟨f, g, rfl, hr, G1, nd, fr⟩ := G.pop
      cases hr with
      | tup hs t =>
        refine ⟨_, _, rfl, G.ex.t hs, by rw [← t.length]; exact hl, h _ Γ Γ' e _ σ H Sh (f ++ g) ⟨t.stack G1.sl, nd, G.fr, G.ex⟩ (by simp [t.length]) Q q⟩
    · cases e
  · cases e
end
end Rh
/-! Rh8: loops. -/
namespace Rh
open PySem L2
/-- the heap has only grown -/
structure Grow (H Sh H' Sh' : Hp) : Prop where
  sh : Ex Sh Sh'
  keep : Ex H H'
  out : ∀ a, H a ≠ none → Sh a = none → Sh' a = none
  ex : Ex Sh' H'
section
variable {K : PySem.W.Frag} {W : WX} {fx : List Nat} {Γ Γ' : Gm} {σ σ' : L2.St} {H Sh H' Sh' : Hp} {O O' O2 : List Addr}
theorem Grow.refl (e : Ex Sh H) : Grow H Sh H Sh := ⟨Ex.refl _, Ex.refl _, fun _ _ h => h, e⟩
theorem Grow.evo (g : Grow H Sh H' Sh') : Evo H Sh O H' Sh' O := ⟨g.sh, fun a o h _ => g.keep a o h, fun a h _ z => g.out a h z, fun a m => .inl m⟩
theorem Grow.rps (g : Grow H Sh H' Sh') (r : Rps K Γ σ H Sh O) : Rps K Γ σ H' Sh' O :=
  ⟨r.sl.mono g.sh fun a m => by
    obtain ⟨o, q⟩ := Option.ne_none_iff_exists'.mp (r.sl.there a m)
    rw [g.keep a o q, q], r.nd, fun a m => g.out a (r.sl.there a m) (r.fr a m), g.ex⟩
/-- what an iterator gives, as data -/
def ItS (K : PySem.W.Frag) (J : It) (ds : List D) (Sh : Hp) : Prop := ∀ (i : Nat) (H' Sh' : Hp), Ex Sh Sh' → Ex Sh' H' →
  (ds.length ≤ i → J.stop i H') ∧ ∀ d, ds[i]? = some d → J.go i H' ∧ ∀ x H2, J.yld i H' x H2 → ∃ Sh2, Grow H' Sh' H2 Sh2 ∧ Rp K Sh2 H2 0 d x []
abbrev FI := Gm → Option (R (List D))
def GotI (K : PySem.W.Frag) (W : WX) (σ : L2.St) (H Sh : Hp) (O : List Addr) (Q : It → Hp → Prop) : R (List D) → Prop
  | .ok ds Γ' => ∀ J H' Sh' O', Evo H Sh O H' Sh' O' → Rps K Γ' σ H' Sh' O' → ItS K J ds Sh' → Q J H'
  | .ex x Γ' => ∀ cls od H' Sh' O', Evo H Sh O H' Sh' O' → Rps K Γ' σ H' Sh' O' → Xr K Sh' H' x cls od → W cls od σ H'
def SndI (K : PySem.W.Frag) (W : WX) (t : TI) (f : FI) : Prop := ∀ Γ r, f Γ = some r → ∀ σ H Sh O, Rps K Γ σ H Sh O → ∀ Q, GotI K W σ H Sh O Q r → t σ H Q
def fItL (f : FE) : FI := fun Γ => R.bind (f Γ) fun a Γ1 => match a.2 with
  | .lst ds => some (.ok ds Γ1)
  | _ => none
def fItT (f : FE) : FI := fun Γ => R.bind (f Γ) fun a Γ1 => match a.2 with
  | .tup ds => some (.ok ds Γ1)
  | _ => none
theorem SndI.lst {t : TE} {f : FE} (h : SndE K W t f) : SndI K W (iList K t) (fItL f) := by
  intro Γ r e σ H Sh O G Q q
  unfold fItL R.bind at e
  cases ea : f Γ with
  | none => rw [ea] at e; cases e
  | some r1 =>
    rw [ea] at e
    cases r1 with
    | ex x Γ1 => cases e; exact h Γ _ ea σ H Sh O G _ q
    | ok a Γ1 =>
      refine h Γ _ ea σ H Sh O G _ fun v H1 Sh1 O1 e1 G1 => ?_
      obtain ⟨k, d⟩ := a
      dsimp only at e
      split at e
      · cases e
        obtain ⟨Sh2, O2, e2, G2⟩ := G1.less (Nat.zero_le _)
        obtain ⟨f', g', rfl, hr, G3, nd, fr⟩ := G2.pop
        cases hr with
        | fz hs t =>
          obtain rfl := t.zero
          refine ⟨_, rfl, ⟨_, G2.ex.l hs⟩, q _ H1 Sh2 g' (e1.trans (e2.sub fun a m => m)) G3 fun i H' Sh' x1 x2 => ⟨fun hi => ⟨_, x2.l (x1.l hs), by rw [← t.length]; exact hi⟩, fun d hd => ?_⟩⟩
          obtain ⟨v, f2, ev, hv, s⟩ := t.get hd
          obtain rfl := hv.zero
          refine ⟨⟨_, _, x2.l (x1.l hs), ev⟩, fun x H2 y => ?_⟩
          obtain ⟨rfl, y⟩ := y
          have := y _ (x2.l (x1.l hs))
          rw [ev] at this
          cases this
          exact ⟨Sh', Grow.refl x2, hv.mono x1 fun _ m => nomatch m⟩
      · cases e
theorem SndI.tup {t : TE} {f : FE} (h : SndE K W t f) : SndI K W (iTup K t) (fItT f) := by
  intro Γ r e σ H Sh O G Q q
  unfold fItT R.bind at e
  cases ea : f Γ with
  | none => rw [ea] at e; cases e
  | some r1 =>
    rw [ea] at e
    cases r1 with
    | ex x Γ1 => cases e; exact h Γ _ ea σ H Sh O G _ q
    | ok a Γ1 =>
      refine h Γ _ ea σ H Sh O G _ fun v H1 Sh1 O1 e1 G1 => ?_
      obtain ⟨k, d⟩ := a
      dsimp only at e
      split at e
      · cases e
        obtain ⟨Sh2, O2, e2, G2⟩ := G1.less (Nat.zero_le _)
        obtain ⟨f', g', rfl, hr, G3, nd, fr⟩ := G2.pop
        cases hr with
        | tup hs t =>
          obtain rfl := t.zero
          refine ⟨_, rfl, ⟨_, G2.ex.t hs⟩, q _ H1 Sh2 g' (e1.trans (e2.sub fun a m => m)) G3 fun i H' Sh' x1 x2 => ⟨fun hi => ⟨_, x2.t (x1.t hs), by rw [← t.length]; exact hi⟩, fun d hd => ?_⟩⟩
          obtain ⟨v, f2, ev, hv, s⟩ := t.get hd
          obtain rfl := hv.zero
          refine ⟨⟨_, _, x2.t (x1.t hs), ev⟩, fun x H2 y => ?_⟩
          obtain ⟨rfl, y⟩ := y
          have := y _ (x2.t (x1.t hs))
          rw [ev] at this
          cases this
          exact ⟨Sh', Grow.refl x2, hv.mono x1 fun _ m => nomatch m⟩
      · cases e
def rngD (lo : Int) (n : Nat) : List D := (List.range n).map fun (i : Nat) => .int (lo + (i : Int))
theorem ItS.range {lo : Int} {n : Nat} : ItS K (Itr lo n) (rngD lo n) Sh := by
  intro i H' Sh' x1 x2
  refine ⟨fun h => (show n ≤ i by simpa [rngD] using h), fun d hd => ?_⟩
  have hi : i < n := by
    have := (List.getElem?_eq_some_iff.mp hd).1
    simpa [rngD] using this
  have e : d = .int (lo + i) := by
    simp [rngD, hi] at hd
    exact hd.symm
  subst e
  refine ⟨hi, fun x H2 y => ?_⟩
  obtain ⟨rfl, rfl⟩ := y
  exact ⟨Sh', Grow.refl x2, .int⟩
def fRng (f : FA) : FI := fun Γ => R.bind (f Γ) fun as Γ1 => match as with
  | [(_, .int j)] => if -(2 ^ 62) ≤ j ∧ j < 2 ^ 62 then some (.ok (rngD 0 j.toNat) Γ1) else none
  | _ => none
theorem SndI.rng {t : TA} {f : FA} (h : SndA K W t f) : SndI K W (iRng1 t) (fRng f) := by
  intro Γ r e σ H Sh O G Q q
  unfold fRng R.bind at e
  cases ea : f Γ with
  | none => rw [ea] at e; cases e
  | some r1 =>
    rw [ea] at e
    cases r1 with
    | ex x Γ1 => cases e; exact h Γ _ ea σ H Sh O G _ q
    | ok as Γ1 =>
      refine h Γ _ ea σ H Sh O G _ fun vs H1 Sh1 O1 l e1 G1 => ?_
      dsimp only at e
      split at e
      · split at e
        · rename_i hj
          cases e
          match vs, l with
          | [v], _ =>
            obtain ⟨f', g', rfl, hr, G3, nd, fr⟩ := Rps.pop G1
            cases hr
            exact ⟨_, rfl, hj.1, hj.2, q _ H1 Sh1 g' (e1.sub fun a m => List.mem_append_right _ m) G3 ItS.range⟩
        · cases e
      · cases e
def fRng2 (f : FA) : FI := fun Γ => R.bind (f Γ) fun as Γ1 => match as with
  | [(_, .int i), (_, .int j)] => if (-(2 ^ 62) ≤ i ∧ i < 2 ^ 62 ∧ -(2 ^ 62) ≤ j ∧ j < 2 ^ 62) then some (.ok (rngD i (j - i).toNat) Γ1) else none
  | _ => none
theorem SndI.rng2 {t : TA} {f : FA} (h : SndA K W t f) : SndI K W (iRng2 t) (fRng2 f) := by
  intro Γ r e σ H Sh O G Q q
  unfold fRng2 R.bind at e
  cases ea : f Γ with
  | none => rw [ea] at e; cases e
  | some r1 =>
    rw [ea] at e
    cases r1 with
    | ex x Γ1 => cases e; exact h Γ _ ea σ H Sh O G _ q
    | ok as Γ1 =>
      refine h Γ _ ea σ H Sh O G _ fun vs H1 Sh1 O1 l e1 G1 => ?_
      dsimp only at e
      split at e
      · split at e
        · rename_i hj
          cases e
          match vs, l with
          | [v, w], _ =>
            obtain ⟨f', g', rfl, hr, G3, nd, fr⟩ := Rps.pop G1
            obtain ⟨f2, g2, rfl, hr2, G4, _, _⟩ := Rps.pop G3
            cases hr
            cases hr2
            exact ⟨_, _, rfl, hj, q _ H1 Sh1 g2 (e1.sub fun a m => List.mem_append_right _ (List.mem_append_right _ m)) G4 ItS.range⟩
        · cases e
      · cases e
/-! ### for -/
def forG (h : FG) (b : FS) : List D → FS
  | [], Γ => some (.nx Γ)
  | d :: ds, Γ => match h (0, d) Γ with
    | some Γ1 => match b Γ1 with
      | some (.nx Γ2) => forG h b ds Γ2
      | some (.ct Γ2) => forG h b ds Γ2
      | some (.bk Γ2) => some (.nx Γ2)
      | r => r
    | none => none
def gFor (f : FI) (h : FG) (b : FS) : FS := fun Γ => match f Γ with
  | some (.ok ds Γ1) => forG h b ds Γ1
  | some (.ex x Γ1) => some (.ex x Γ1)
  | none => none
theorem SndS.for {wi : TI} {g : TG} {tb : TS} {f : FI} {h : FG} {b : FS} (hi : SndI K W wi f) (hg : SndG K fx g h) (hb : SndS K W fx tb b) : SndS K W fx (tFor wi g tb) (gFor f h b) := by
  intro Γ r e σ H Sh O G E q
  unfold gFor at e
  cases ea : f Γ with
  | none => rw [ea] at e; cases e
  | some r1 =>
    rw [ea] at e
    cases r1 with
    | ex x Γ1 =>
      cases e
      exact hi Γ _ ea σ H Sh O G _ fun c od H1 Sh1 O1 e1 G1 z => q c od σ H1 Sh1 O1 Fx.refl e1 G1 z
    | ok ds Γ1 =>
      refine hi Γ _ ea σ H Sh O G _ fun J H1 Sh1 O1 e1 G1 it => ?_
      dsimp only at e
      refine ⟨fun i m σ' H' => ∃ Γi Sh' O', m = ds.length - i ∧ i ≤ ds.length ∧ forG h b (ds.drop i) Γi = some r ∧ Fx fx σ σ' ∧ Evo H1 Sh1 O1 H' Sh' O' ∧ Rps K Γi σ' H' Sh' O',
        ⟨ds.length, Γ1, Sh1, O1, by simp, Nat.zero_le _, by simpa using e, Fx.refl, Evo.refl, G1⟩, ?_⟩
      rintro i m σ2 H2 ⟨Γi, Sh2, O2, rfl, hil, er, f2, ev2, G2⟩
      obtain ⟨hstop, hgo⟩ := it i H2 Sh2 ev2.sh G2.ex
      by_cases hlt : i < ds.length
      · have hd : ds[i]? = some ds[i] := List.getElem?_eq_getElem hlt
        obtain ⟨go, yld⟩ := hgo _ hd
        refine .inr ⟨go, fun σ' H' => ∃ m', m' < ds.length - i ∧ ∃ Γi Sh' O', m' = ds.length - (i + 1) ∧ i + 1 ≤ ds.length ∧ forG h b (ds.drop (i + 1)) Γi = some r ∧ Fx fx σ σ' ∧ Evo H1 Sh1 O1 H' Sh' O' ∧ Rps K Γi σ' H' Sh' O', fun σ' H' n => n, fun x H3 y => ?_⟩
        obtain ⟨Sh3, gr, hx⟩ := yld x H3 y
        have G3 := (gr.rps G2).push0 hx
        rw [List.drop_eq_getElem_cons hlt] at er
        unfold forG at er
        split at er
        · rename_i Γ2 eh
          refine hg _ Γi Γ2 eh x σ2 H3 Sh3 O2 G3 _ fun σ4 H4 Sh4 O4 f4 ev4 G4 => ?_
          have evA : Evo H1 Sh1 O1 H4 Sh4 O4 := (ev2.trans gr.evo).trans ev4
          have fA := f2.trans f4
          split at er
          · rename_i Γ5 eb
            exact hb Γ2 _ eb σ4 H4 Sh4 O4 G4 _ fun σ5 H5 Sh5 O5 f5 ev5 G5 => ⟨_, by omega, Γ5, Sh5, O5, rfl, hlt, er, fA.trans f5, evA.trans ev5, G5⟩
          · rename_i Γ5 eb
            exact hb Γ2 _ eb σ4 H4 Sh4 O4 G4 _ fun σ5 H5 Sh5 O5 f5 ev5 G5 => ⟨_, by omega, Γ5, Sh5, O5, rfl, hlt, er, fA.trans f5, evA.trans ev5, G5⟩
          · rename_i Γ5 eb
            cases er
            exact hb Γ2 _ eb σ4 H4 Sh4 O4 G4 _ fun σ5 H5 Sh5 O5 f5 ev5 G5 => q σ5 H5 Sh5 O5 (fA.trans f5) ((e1.trans evA).trans ev5) G5
          · rename_i hn1 hn2 hn3
            have q' := GotS.step fA (e1.trans evA) q
            refine hb Γ2 r er σ4 H4 Sh4 O4 G4 _ ?_
            cases r with
            | nx Γ => exact (hn1 _ er).elim
            | bk Γ => exact (hn3 _ er).elim
            | ct Γ => exact (hn2 _ er).elim
            | rt a Γ => exact q'
            | ex x Γ => exact q'
        · cases er
      · have hle : ds.length ≤ i := Nat.le_of_not_lt hlt
        rw [List.drop_eq_nil_of_le hle] at er
        cases er
        exact .inl ⟨hstop hle, q σ2 H2 Sh2 O2 f2 (e1.trans ev2) G2⟩
/-! ### while -/
def whileN (c : FT) (b : FS) : Nat → FS
  | 0, _ => none
  | n + 1, Γ => match c Γ with
    | some (.ok true Γ1) => match b Γ1 with
      | some (.nx Γ2) => whileN c b n Γ2
      | some (.ct Γ2) => whileN c b n Γ2
      | some (.bk Γ2) => some (.nx Γ2)
      | r => r
    | some (.ok false Γ1) => some (.nx Γ1)
    | some (.ex x Γ1) => some (.ex x Γ1)
    | none => none
theorem whileN_succ {c : FT} {b : FS} : ∀ {n : Nat} {Γ : Gm} {r : S}, whileN c b n Γ = some r → whileN c b (n + 1) Γ = some r
  | n + 1, Γ, r, e => by
    unfold whileN at e ⊢
    split at e
    · split at e
      · exact whileN_succ e
      · exact whileN_succ e
      · exact e
      · exact e
    · exact e
    · exact e
    · cases e
theorem whileN_le {c : FT} {b : FS} {n m : Nat} {Γ : Gm} {r : S} (e : whileN c b n Γ = some r) (h : n ≤ m) : whileN c b m Γ = some r := by
  induction h with
  | refl => exact e
  | step _ ih => exact whileN_succ ih
open Classical in
noncomputable def gWhile (c : FT) (b : FS) : FS := fun Γ => if h : ∃ n r, whileN c b n Γ = some r then some (Classical.choose (Classical.choose_spec h)) else none
theorem gWhile_some {c : FT} {b : FS} {Γ : Gm} {r : S} (e : gWhile c b Γ = some r) : ∃ n, whileN c b n Γ = some r := by
  unfold gWhile at e
  split at e
  · rename_i h
    cases e
    exact ⟨_, Classical.choose_spec (Classical.choose_spec h)⟩
  · cases e
theorem gWhile_of {c : FT} {b : FS} {Γ : Gm} {r : S} {n : Nat} (e : whileN c b n Γ = some r) : gWhile c b Γ = some r := by
  have h : ∃ n r, whileN c b n Γ = some r := ⟨n, r, e⟩
  have h2 := Classical.choose_spec (Classical.choose_spec h)
  unfold gWhile
  rw [dif_pos h]
  have a := whileN_le e (Nat.le_max_left n (Classical.choose h))
  have b' := whileN_le h2 (Nat.le_max_right n (Classical.choose h))
  rw [a] at b'
  exact b'.symm ▸ rfl
theorem SndS.while {c : TT} {tb : TS} {f : FT} {b : FS} (hc : SndT K W c f) (hb : SndS K W fx tb b) : SndS K W fx (tWhile c tb) (gWhile f b) := by
  intro Γ r e σ H Sh O G E q
  obtain ⟨n, en⟩ := gWhile_some e
  refine ⟨fun m σ' H' => ∃ Γi Sh' O', whileN f b m Γi = some r ∧ Fx fx σ σ' ∧ Evo H Sh O H' Sh' O' ∧ Rps K Γi σ' H' Sh' O', ⟨n, Γ, Sh, O, en, Fx.refl, Evo.refl, G⟩, ?_⟩
  rintro m σ1 H1 ⟨Γi, Sh1, O1, em, f1, e1, G1⟩
  match m, em with
  | m + 1, em =>
    unfold whileN at em
    have q' := GotS.step f1 e1 q
    split at em
    · rename_i Γ1 ec
      refine hc Γi _ ec σ1 H1 Sh1 O1 G1 _ fun H2 Sh2 O2 e2 G2 => ?_
      dsimp only
      rw [if_pos rfl]
      refine ⟨fun σ' H' => ∃ m', m' < m + 1 ∧ ∃ Γi Sh' O', whileN f b m' Γi = some r ∧ Fx fx σ σ' ∧ Evo H Sh O H' Sh' O' ∧ Rps K Γi σ' H' Sh' O', fun σ' H' n => n, ?_⟩
      split at em
      · rename_i Γ5 eb
        exact hb Γ1 _ eb σ1 H2 Sh2 O2 G2 _ fun σ5 H5 Sh5 O5 f5 ev5 G5 => ⟨m, by omega, Γ5, Sh5, O5, em, f1.trans f5, (e1.trans e2).trans ev5, G5⟩
      · rename_i Γ5 eb
        exact hb Γ1 _ eb σ1 H2 Sh2 O2 G2 _ fun σ5 H5 Sh5 O5 f5 ev5 G5 => ⟨m, by omega, Γ5, Sh5, O5, em, f1.trans f5, (e1.trans e2).trans ev5, G5⟩
      · rename_i Γ5 eb
        cases em
        exact hb Γ1 _ eb σ1 H2 Sh2 O2 G2 _ fun σ5 H5 Sh5 O5 f5 ev5 G5 => q σ5 H5 Sh5 O5 (f1.trans f5) ((e1.trans e2).trans ev5) G5
      · rename_i hn1 hn2 hn3
        have q2 := GotS.step Fx.refl e2 q'
        refine hb Γ1 r em σ1 H2 Sh2 O2 G2 _ ?_
        cases r with
        | nx Γ => exact (hn1 _ em).elim
        | bk Γ => exact (hn3 _ em).elim
        | ct Γ => exact (hn2 _ em).elim
        | rt a Γ => exact q2
        | ex x Γ => exact q2
    · rename_i Γ1 ec
      cases em
      refine hc Γi _ ec σ1 H1 Sh1 O1 G1 _ fun H2 Sh2 O2 e2 G2 => ?_
      dsimp only
      rw [if_neg Bool.false_ne_true]
      exact q' σ1 H2 Sh2 O2 Fx.refl e2 G2
    · rename_i x Γ1 ec
      cases em
      exact hc Γi _ ec σ1 H1 Sh1 O1 G1 _ fun cl od H2 Sh2 O2 e2 G2 z => q' cl od σ1 H2 Sh2 O2 Fx.refl e2 G2 z
    · cases em
end
end Rh
/-! Rh9: what is owned is changed: places within it, stores, methods of lists. -/
namespace Rh
open PySem L2
section
variable {K : PySem.W.Frag} {W : WX} {fx : List Nat} {Γ Γ' : Gm} {σ σ' : L2.St} {H Sh H' Sh' : Hp} {O O' O2 : List Addr}
/-- a place within something owned -/
structure Hole (K : PySem.W.Frag) (Sh H : Hp) (k : Nat) (v : V) (fp : List Addr) (k0 : Nat) (d0 : D) (v0 : V) (f0 rest : List Addr) (put : D → D) : Prop where
  rp : Rp K Sh H k0 d0 v0 f0
  pm : fp.Perm (f0 ++ rest)
  plug : ∀ (Sh' H' : Hp) (d' : D) (f' : List Addr), Ex Sh Sh' → (∀ a ∈ rest, H' a = H a) → Rp K Sh' H' k0 d' v0 f' → ∃ fp', Rp K Sh' H' k (put d') v fp' ∧ fp'.Perm (f' ++ rest)
theorem Hole.refl {k : Nat} {d : D} {v : V} {fp : List Addr} (h : Rp K Sh H k d v fp) : Hole K Sh H k v fp k d v fp [] id :=
  ⟨h, by simp, fun _ _ _ f' _ _ h' => ⟨f', h', by simp⟩⟩
theorem Hole.trans {k k0 k1 : Nat} {d0 d1 : D} {v v0 v1 : V} {fp f0 f1 r0 r1 : List Addr} {p0 p1 : D → D} (a : Hole K Sh H k v fp k0 d0 v0 f0 r0 p0) (b : Hole K Sh H k0 v0 f0 k1 d1 v1 f1 r1 p1) :
    Hole K Sh H k v fp k1 d1 v1 f1 (r1 ++ r0) (p0 ∘ p1) := by
  refine ⟨b.rp, a.pm.trans ?_, fun Sh' H' d' f' e q r => ?_⟩
  · rw [← List.append_assoc]
    exact b.pm.append_right r0
  · obtain ⟨g, h1, p1⟩ := b.plug Sh' H' d' f' e (fun x m => q x (List.mem_append_left _ m)) r
    obtain ⟨g', h2, p2⟩ := a.plug Sh' H' _ g e (fun x m => q x (List.mem_append_right _ m)) h1
    refine ⟨g', h2, p2.trans ?_⟩
    rw [← List.append_assoc]
    exact p1.append_right r0
theorem Hole.mono {k k0 : Nat} {d0 : D} {v v0 : V} {fp f0 r0 : List Addr} {p0 : D → D} (a : Hole K Sh H k v fp k0 d0 v0 f0 r0 p0) (e : Ex Sh Sh') (q : ∀ x ∈ fp, H' x = H x) : Hole K Sh' H' k v fp k0 d0 v0 f0 r0 p0 :=
  ⟨a.rp.mono e fun x m => q x (a.pm.mem_iff.mpr (List.mem_append_left _ m)), a.pm, fun Sh2 H2 d' f' e' q' r => a.plug Sh2 H2 d' f' (e.trans e') (fun x m => (q' x m).trans (q x (a.pm.mem_iff.mpr (List.mem_append_right _ m)))) r⟩
theorem RpA.focus : ∀ {k : Nat} {ds : List D} {vs : List V} {fp : List Addr} {j : Nat} {d : D}, RpA K Sh H k ds vs fp → ds[j]? = some d → ∃ v f0 rest, vs[j]? = some v ∧ Rp K Sh H k d v f0 ∧ fp.Perm (f0 ++ rest) ∧
    ∀ (Sh' H' : Hp) (d' : D) (f' : List Addr), Ex Sh Sh' → (∀ a ∈ rest, H' a = H a) → Rp K Sh' H' k d' v f' → ∃ fp', RpA K Sh' H' k (ds.set j d') vs fp' ∧ fp'.Perm (f' ++ rest)
  | _, _, _, _, j, _, .nil, e => by simp at e
  | _, _, _, _, 0, _, .cons (f := f) (g := g) h t, e => by
    simp at e
    subst e
    exact ⟨_, f, g, rfl, h, .refl _, fun Sh' H' d' f' e q r => ⟨f' ++ g, .cons r (t.mono e q), .refl _⟩⟩
  | _, _, _, _, j + 1, _, .cons (f := f) (g := g) h t, e => by
    obtain ⟨v, f0, rest, e1, r, p, F⟩ := t.focus (j := j) (by simpa using e)
    refine ⟨v, f0, f ++ rest, by simpa using e1, r, (p.append_left f).trans (List.perm_append_comm_assoc f f0 rest), fun Sh' H' d' f' e q r => ?_⟩
    obtain ⟨fp', a, p'⟩ := F Sh' H' d' f' e (fun x m => q x (List.mem_append_right _ m)) r
    exact ⟨f ++ fp', .cons (h.mono e fun x m => q x (List.mem_append_left _ m)) a, (p'.append_left f).trans (List.perm_append_comm_assoc f f' rest)⟩
/-- a place by its way there -/
abbrev FL := DK → Gm → Option (Nat × D × (D → D))
def SndL (K : PySem.W.Frag) (t : TE) (j : Nat) (l : FL) : Prop := ∀ a Γ k0 d0 put, l a Γ = some (k0, d0, put) → ∀ σ H Sh O, Rps K Γ σ H Sh O → ∀ v f, σ[j]? = some (some v) → Rp K Sh H a.1 a.2 v f →
  ∃ v0 f0 rest, Hole K Sh H a.1 v f k0 d0 v0 f0 rest put ∧ ∀ Q : VK, Q v0 H → t σ H Q
def lName : FL := fun a _ => some (a.1, a.2, id)
theorem SndL.name {j : Nat} : SndL K (tVar j) j lName := by
  intro a Γ k0 d0 put e σ H Sh O G v f ev h
  cases e
  exact ⟨v, f, [], .refl h, fun Q q => ⟨v, ev, q⟩⟩
def lIx (l : FL) (fi : FP) : FL := fun a Γ => match l a Γ, fi Γ with
  | some (k + 1, .lst ds, put), some (_, .int i) => match ixN ds.length i with
    | some m => match ds[m]? with
      | some d => some (k, d, put ∘ fun d' => .lst (ds.set m d'))
      | none => none
    | none => none
  | some (k, .tup ds, put), some (_, .int i) => match ixN ds.length i with
    | some m => match ds[m]? with
      | some d => some (k, d, put ∘ fun d' => .tup (ds.set m d'))
      | none => none
    | none => none
  | _, _ => none
theorem atI_of {α : Type} {xs : List α} {n m : Nat} {i : Int} {v : α} (h : n = xs.length) (e : ixN n i = some m) (q : xs[m]? = some v) : atI xs i = some v := by
  unfold atI
  rw [← h, e]
  exact q
theorem SndL.ix {to ti : TE} {j : Nat} {l : FL} {fi : FP} (h : SndL K to j l) (hi : SndP K ti fi) : SndL K (tOp (rIx K) to ti) j (lIx l fi) := by
  intro a Γ k0 d0 put e σ H Sh O G v f ev hr
  unfold lIx at e
  split at e
  · rename_i k ds put0 j' i el ei
    split at e
    · rename_i m em
      split at e
      · rename_i d ed
        cases e
        obtain ⟨v0, f0, rest, hole, run⟩ := h a Γ _ _ _ el σ H Sh O G v f ev hr
        obtain ⟨w, fw, hw, runw⟩ := hi Γ _ ei σ H Sh O G
        cases hw
        cases hole.rp with
        | @own k p vs ds fp hp t =>
          obtain ⟨x, g0, r1, ex, rx, pm, F⟩ := t.focus ed
          refine ⟨x, g0, (p :: r1) ++ rest, hole.trans ⟨rx, (pm.cons p).trans (List.perm_middle.symm), fun Sh' H' d' f' e q r => ?_⟩, fun Q q => run _ (runw _ (.inl ⟨_, _, _, _, rfl, rfl, SqL.of hp, atI_of t.length em ex, q⟩))⟩
          obtain ⟨fp', a', p'⟩ := F Sh' H' d' f' e (fun x m => q x (List.mem_cons_of_mem _ m)) r
          exact ⟨p :: fp', .own ((q p List.mem_cons_self).trans hp) a', (p'.cons p).trans List.perm_middle.symm⟩
      · cases e
    · cases e
  · rename_i k ds put0 j' i el ei
    split at e
    · rename_i m em
      split at e
      · rename_i d ed
        cases e
        obtain ⟨v0, f0, rest, hole, run⟩ := h a Γ _ _ _ el σ H Sh O G v f ev hr
        obtain ⟨w, fw, hw, runw⟩ := hi Γ _ ei σ H Sh O G
        cases hw
        cases hole.rp with
        | @tup k p vs ds fp hp t =>
          obtain ⟨x, g0, r1, ex, rx, pm, F⟩ := t.focus ed
          refine ⟨x, g0, r1 ++ rest, hole.trans ⟨rx, pm, fun Sh' H' d' f' e q r => ?_⟩, fun Q q => run _ (runw _ (.inr (.inl ⟨_, _, _, _, rfl, rfl, G.ex.t hp, atI_of t.length em ex, q⟩)))⟩
          obtain ⟨fp', a', p'⟩ := F Sh' H' d' f' e q r
          exact ⟨fp', .tup (e.t hp) a', p'⟩
      · cases e
    · cases e
  · cases e
/-- one object is written -/
theorem write {p : Addr} {o : HO} {fp f0 f' rest O : List Addr} (nd : (fp ++ O).Nodup) (pm : fp.Perm ((p :: f0) ++ rest)) : ∀ x ∈ f0 ++ rest ++ O, upd H p o x = H x := by
  intro x m
  refine upd_ne fun z => ?_
  have nd2 : ((p :: f0) ++ rest ++ O).Nodup := (pm.append_right O).nodup_iff.mp nd
  rw [List.cons_append, List.cons_append] at nd2
  exact (List.nodup_cons.mp nd2).1 (z ▸ m)
/-! ### x[..] = v -/
def hSub (fx : List Nat) (j : Nat) (l : FL) (fi : FP) : FG := fun a Γ => match Γ[j]? with
  | some (some b) => match l b Γ, fi Γ with
    | some (k + 1, .lst ds, put), some (_, .int i) => match ixN ds.length i with
      | some m => if a.2.imm = true ∨ k ≤ a.1 then some (Γ.set j (some (b.1, put (.lst (ds.set m a.2))))) else none
      | none => none
    | _, _ => none
  | _ => none
theorem RpA.set : ∀ {k : Nat} {ds : List D} {vs : List V} {fp f : List Addr} {j : Nat} {d : D} {v : V}, RpA K Sh H k ds vs fp → Rp K Sh H k d v f → j < ds.length → ∃ fp' g, RpA K Sh H k (ds.set j d) (vs.set j v) fp' ∧ fp'.Perm (f ++ g) ∧ g.Sublist fp
  | _, _, _, _, _, j, _, _, .nil, _, e => by simp at e
  | _, _, _, _, f, 0, _, _, .cons (g := g) h t, r, e => ⟨f ++ g, g, .cons r t, .refl _, List.sublist_append_right _ _⟩
  | _, _, _, _, f, j + 1, _, _, .cons (f := f1) (g := g1) h t, r, e => by
    obtain ⟨fp', g, a, p, s⟩ := t.set (j := j) r (by simpa using e)
    exact ⟨f1 ++ fp', f1 ++ g, .cons h a, (p.append_left f1).trans (List.perm_append_comm_assoc f1 f g), s.append_left f1⟩
theorem ixN_lt {n m : Nat} {i : Int} (h : ixN n i = some m) : m < n := (ixN_seq h).2.1
/-- the top is owned at least so deep, or is plain -/
theorem Rps.atLeast {a : DK} {v : V} {k : Nat} (r : Rps K (some a :: Γ) (some v :: σ) H Sh O) (h : a.2.imm = true ∨ k ≤ a.1) : ∃ Sh' O', Evo H Sh O H Sh' O' ∧ Rps K (some (k, a.2) :: Γ) (some v :: σ) H Sh' O' := by
  obtain ⟨j, d⟩ := a
  rcases h with i | i
  · obtain ⟨f, g, rfl, h, r1, nd, fr⟩ := r.pop
    obtain ⟨rfl, rj⟩ := h.immut i
    exact ⟨Sh, g, Evo.refl, r1.push0 (rj k H)⟩
  · exact r.less i
theorem Rps.mid {b : DK} {w : V} {a : Option DK} {v : Option V} (r : Rps K (some b :: a :: Γ) (some w :: v :: σ) H Sh O) : ∃ O', Rps K (a :: some b :: Γ) (v :: some w :: σ) H Sh O' ∧ O'.Perm O := by
  obtain ⟨w', f, g, e, rfl, h, t⟩ := r.sl.cons_inv (k := b.1) (d := b.2)
  cases e
  cases a with
  | none =>
    cases t with
    | emp t => exact ⟨f ++ g, r.perm (.emp (.cons h t)) (.refl _), .refl _⟩
  | some a =>
    obtain ⟨v', f', g', e, rfl, h', t'⟩ := t.cons_inv (k := a.1) (d := a.2)
    subst e
    exact ⟨f' ++ (f ++ g'), r.perm (.cons h' (.cons h t')) (List.perm_append_comm_assoc f' f g'), List.perm_append_comm_assoc f' f g'⟩
theorem SndG.sub {to ti : TE} {j : Nat} {l : FL} {fi : FP} (h : SndL K to j l) (hi : SndP K ti fi) : SndG K fx (L2.gSub to ti rSetL) (hSub fx j l fi) := by
  intro a Γ Γ' e v σ H Sh O G Q q
  unfold hSub at e
  split at e
  · rename_i b eb
    split at e
    · rename_i k ds put j' i el ei
      split at e
      · rename_i m em
        split at e
        · rename_i hk
          cases e
          obtain ⟨Sh1, O1, e1, G1⟩ := G.atLeast hk
          obtain ⟨fa, ga, rfl, ha, G2, nda, fra⟩ := G1.pop
          obtain ⟨w, O2, ew, G3, p3⟩ := G2.take eb
          obtain ⟨f, g, rfl, hb, G4, nd, fr⟩ := G3.pop (k := b.1) (d := b.2)
          obtain ⟨v0, f0, rest, hole, run⟩ := h b Γ _ _ _ el σ H Sh1 ga G2 w f ew hb
          obtain ⟨y, fy, hy, runy⟩ := hi Γ _ ei σ H Sh1 ga G2
          cases hy
          cases hole.rp with
          | @own k p vs ds fp hp t =>
            have il : j < Γ.length := (List.getElem?_eq_some_iff.mp eb).1
            refine run _ (runy _ ⟨p, vs, i, m, rfl, rfl, hp, by rw [← t.length]; exact em, ?_⟩)
            have ndT : (fa ++ (f ++ g)).Nodup := ((p3.append_left fa).nodup_iff).mpr nda
            have pmf := hole.pm
            -- all addresses at once: p, fp, rest, fa, g
            have big : ((p :: fp) ++ rest ++ (fa ++ g)).Nodup := by
              have q1 : (f ++ (fa ++ g)).Nodup := (List.perm_append_comm_assoc fa f g).nodup_iff.mp ndT
              exact (pmf.append_right _).nodup_iff.mp q1
            have frT : ∀ x ∈ (p :: fp) ++ rest ++ (fa ++ g), Sh1 x = none := fun x mx => by
              rcases List.mem_append.mp mx with mx | mx
              · exact fr x (pmf.mem_iff.mpr mx)
              · exact (List.mem_append.mp mx).elim (fra x) (G4.fr x)
            have same : ∀ x, x ∈ fp ++ rest ++ (fa ++ g) → upd H p (.lst (vs.set m v)) x = H x := fun x mx => upd_ne fun z => by
              subst z
              rw [List.cons_append, List.cons_append] at big
              exact (List.nodup_cons.mp big).1 mx
            have t1 : RpA K Sh1 (upd H p (.lst (vs.set m v))) k ds vs fp := t.mono (Ex.refl _) fun x mx => same x (List.mem_append_left _ (List.mem_append_left _ mx))
            have a1 : Rp K Sh1 (upd H p (.lst (vs.set m v))) k a.2 v fa := ha.mono (Ex.refl _) fun x mx => same x (List.mem_append_right _ (List.mem_append_left _ mx))
            obtain ⟨fp2, g2, t2, p2, s2⟩ := t1.set a1 (ixN_lt em)
            obtain ⟨fp3, r3, p4⟩ := hole.plug Sh1 _ (.lst (ds.set m a.2)) (p :: fp2) (Ex.refl _) (fun x mx => same x (List.mem_append_left _ (List.mem_append_right _ mx))) (.own upd_same t2)
            have G5 : Sl K Sh1 (upd H p (.lst (vs.set m v))) (Γ.set j none) σ g := G4.sl.mono (Ex.refl _) fun x mx => same x (List.mem_append_right _ (List.mem_append_right _ mx))
            obtain ⟨O6, G6, p6⟩ := G5.put (a := (b.1, put (.lst (ds.set m a.2)))) (by simp [il]) ew r3
            rw [List.set_set] at G6
            -- what is owned behind
            have sub : ∀ x ∈ O6, x ∈ (p :: fp) ++ rest ++ (fa ++ g) := fun x mx => by
              rcases List.mem_append.mp (p6.mem_iff.mp mx) with mx | mx
              · rcases List.mem_append.mp (p4.mem_iff.mp mx) with mx | mx
                · rcases List.mem_cons.mp mx with rfl | mx
                  · exact List.mem_append_left _ (List.mem_append_left _ List.mem_cons_self)
                  · rcases List.mem_append.mp (p2.mem_iff.mp mx) with mx | mx
                    · exact List.mem_append_right _ (List.mem_append_left _ mx)
                    · exact List.mem_append_left _ (List.mem_append_left _ (List.mem_cons_of_mem _ (s2.subset mx)))
                · exact List.mem_append_left _ (List.mem_append_right _ mx)
              · exact List.mem_append_right _ (List.mem_append_right _ mx)
            have nd6 : O6.Nodup := by
              refine p6.nodup_iff.mpr ((p4.append_right g).nodup_iff.mpr ?_)
              have step1 : ((p :: fp2) ++ rest ++ g).Perm ((p :: (fa ++ g2)) ++ rest ++ g) := ((p2.cons p).append_right rest).append_right g
              refine step1.nodup_iff.mpr ?_
              have s3 : ((p :: (g2 ++ fa)) ++ rest ++ g).Perm ((p :: g2) ++ rest ++ (fa ++ g)) := by
                simp only [List.cons_append, List.append_assoc]
                exact ((List.perm_append_comm_assoc fa rest g).append_left g2).cons p
              have s4 : ((p :: (fa ++ g2)) ++ rest ++ g).Perm ((p :: (g2 ++ fa)) ++ rest ++ g) := ((List.perm_append_comm.cons p).append_right rest).append_right g
              refine (s4.trans s3).nodup_iff.mpr (big.sublist ?_)
              exact ((s2.cons_cons p).append_right rest).append_right _
            refine q σ _ Sh1 O6 Fx.refl ?_ ⟨G6, nd6, fun x mx => frT x (sub x mx), fun x o hx => ?_⟩
            · refine e1.trans ⟨Ex.refl _, fun x o hx nx => ?_, fun x hx nx z => z, fun x mx => .inl ?_⟩
              · rw [upd_ne fun z => nx ?_]
                · exact hx
                · refine List.mem_append_right _ (p3.mem_iff.mp (List.mem_append_left _ (pmf.mem_iff.mpr (List.mem_append_left _ ?_))))
                  rw [z]
                  exact List.mem_cons_self
              · rcases List.mem_append.mp (sub x mx) with mx | mx
                · exact List.mem_append_right _ (p3.mem_iff.mp (List.mem_append_left _ (pmf.mem_iff.mpr mx)))
                · exact (List.mem_append.mp mx).elim (List.mem_append_left _) fun mx => List.mem_append_right _ (p3.mem_iff.mp (List.mem_append_right _ mx))
            · have nx : x ≠ p := fun z => by
                subst z
                rw [frT x (List.mem_append_left _ (List.mem_append_left _ List.mem_cons_self))] at hx
                cases hx
              rw [upd_ne nx]
              exact G4.ex x o hx
        · cases e
      · cases e
    · cases e
  · cases e
end
end Rh
/-! Rh10: methods that change a list. -/
namespace Rh
open PySem L2
section
variable {K : PySem.W.Frag} {W : WX} {fx : List Nat} {Γ Γ' : Gm} {σ σ' : L2.St} {H Sh H' Sh' : Hp} {O O' O2 : List Addr}
theorem mutate {b : DK} {w : V} {f g fa fp rest : List Addr} {k : Nat} {ds : List D} {p : Addr} {put : D → D} {j : Nat} (G : Rps K Γ σ H Sh g) (hole : Hole K Sh H b.1 w f (k + 1) (.lst ds) (.ref p) (p :: fp) rest put)
    (nd : (f ++ (fa ++ g)).Nodup) (fr : ∀ x ∈ f ++ (fa ++ g), Sh x = none) (ej : Γ[j]? = some none) (ew : σ[j]? = some (some w))
    {ds' : List D} {vs' : List V} {fp2 f2 s : List Addr} {kr : Nat} {dr : D} {vr : V} (t : RpA K Sh H k ds' vs' fp2) (hr : Rp K Sh H kr dr vr f2) (pm : (fp2 ++ f2).Perm s) (sub : s.Sublist (fp ++ fa)) :
    ∃ O', Rps K (some (kr, dr) :: Γ.set j (some (b.1, put (.lst ds')))) (some vr :: σ) (upd H p (.lst vs')) Sh O' ∧ Evo H Sh (f ++ (fa ++ g)) (upd H p (.lst vs')) Sh O' := by
  have pmf := hole.pm
  have big : ((p :: fp) ++ rest ++ (fa ++ g)).Nodup := (pmf.append_right _).nodup_iff.mp nd
  have inb : ∀ x, x ∈ (p :: fp) ++ rest ++ (fa ++ g) → x ∈ f ++ (fa ++ g) := fun x mx => (List.mem_append.mp mx).elim (fun mx => List.mem_append_left _ (pmf.mem_iff.mpr mx)) (List.mem_append_right _)
  have same : ∀ x, x ∈ fp ++ rest ++ (fa ++ g) → upd H p (.lst vs') x = H x := fun x mx => upd_ne fun z => by
    subst z
    rw [List.cons_append, List.cons_append] at big
    exact (List.nodup_cons.mp big).1 mx
  have in2 : ∀ x, x ∈ fp2 ++ f2 → x ∈ fp ++ rest ++ (fa ++ g) := fun x mx => (List.mem_append.mp (sub.subset (pm.mem_iff.mp mx))).elim (fun mx => List.mem_append_left _ (List.mem_append_left _ mx)) fun mx => List.mem_append_right _ (List.mem_append_left _ mx)
  have t1 : RpA K Sh (upd H p (.lst vs')) k ds' vs' fp2 := t.mono (Ex.refl _) fun x mx => same x (in2 x (List.mem_append_left _ mx))
  have hr1 : Rp K Sh (upd H p (.lst vs')) kr dr vr f2 := hr.mono (Ex.refl _) fun x mx => same x (in2 x (List.mem_append_right _ mx))
  obtain ⟨fp3, r3, p4⟩ := hole.plug Sh _ (.lst ds') (p :: fp2) (Ex.refl _) (fun x mx => same x (List.mem_append_left _ (List.mem_append_right _ mx))) (.own upd_same t1)
  have G5 : Sl K Sh (upd H p (.lst vs')) Γ σ g := G.sl.mono (Ex.refl _) fun x mx => same x (List.mem_append_right _ (List.mem_append_right _ mx))
  obtain ⟨O6, G6, p6⟩ := G5.put (a := (b.1, put (.lst ds'))) ej ew r3
  -- all together
  have pall : (f2 ++ O6).Perm (p :: s ++ rest ++ g) := by
    have h1 : (f2 ++ O6).Perm (f2 ++ ((p :: fp2) ++ rest ++ g)) := (p6.trans (p4.append_right g)).append_left f2
    have h2 : (f2 ++ ((p :: fp2) ++ rest ++ g)).Perm (p :: (fp2 ++ f2) ++ rest ++ g) := by
      simp only [List.cons_append, List.append_assoc]
      exact List.perm_middle.trans ((List.perm_append_comm_assoc f2 fp2 _).cons p)
    have h3 : (p :: (fp2 ++ f2) ++ rest ++ g).Perm (p :: s ++ rest ++ g) := ((pm.cons p).append_right rest).append_right g
    exact (h1.trans h2).trans h3
  have subl : ∃ q, (p :: s ++ rest ++ g).Perm q ∧ q.Sublist ((p :: (fp ++ fa)) ++ rest ++ g) := ⟨_, .refl _, ((sub.cons_cons p).append_right rest).append_right g⟩
  have bigp : ((p :: (fp ++ fa)) ++ rest ++ g).Perm ((p :: fp) ++ rest ++ (fa ++ g)) := by
    simp only [List.cons_append, List.append_assoc]
    exact ((List.perm_append_comm_assoc fa rest g).append_left fp).cons p
  obtain ⟨q, pq, sq⟩ := subl
  have ndA : (f2 ++ O6).Nodup := (pall.trans pq).nodup_iff.mpr ((bigp.nodup_iff.mpr big).sublist sq)
  have inA : ∀ x ∈ f2 ++ O6, x ∈ f ++ (fa ++ g) := fun x mx => inb x (bigp.mem_iff.mp (sq.subset ((pall.trans pq).mem_iff.mp mx)))
  have pin : p ∈ f ++ (fa ++ g) := List.mem_append_left _ (pmf.mem_iff.mpr (List.mem_append_left _ List.mem_cons_self))
  refine ⟨f2 ++ O6, ⟨.cons hr1 G6, ndA, fun x mx => fr x (inA x mx), fun x o hx => ?_⟩, Ex.refl _, fun x o hx nx => ?_, fun x _ _ z => z, fun x mx => .inl (inA x mx)⟩
  · have nx : x ≠ p := fun z => by
      subst z
      rw [fr x pin] at hx
      cases hx
    rw [upd_ne nx]
    exact G.ex x o hx
  · rw [upd_ne fun z : x = p => nx (by rw [z]; exact pin)]
    exact hx
/-- what a method does to a list: the list behind it and the answer -/
abbrev Op := Nat → List D → List DK → Option (List D × DK)
def MutS (K : PySem.W.Frag) (r : V → List V → Hp → VK → Prop) (op : Op) : Prop := ∀ k ds as ds' res, op k ds as = some (ds', res) → ∀ (Sh H : Hp) p xs fp vs fa, Ex Sh H → RpA K Sh H k ds xs fp → RpA K Sh H k (as.map (·.2)) vs fa → H p = some (.lst xs) →
  ∃ xs' fp2 vr f2 s, RpA K Sh H k ds' xs' fp2 ∧ Rp K Sh H res.1 res.2 vr f2 ∧ (fp2 ++ f2).Perm s ∧ s.Sublist (fp ++ fa) ∧ ∀ Q : VK, Q vr (upd H p (.lst xs')) → r (.ref p) vs H Q
def okDeep (k : Nat) : List DK → Bool
  | [] => true
  | a :: r => (a.2.imm || decide (k ≤ a.1)) && okDeep k r
theorem okDeep_ok {k : Nat} : ∀ {as : List DK}, okDeep k as = true → ∀ a ∈ as, a.2.imm = true ∨ k ≤ a.1
  | b :: r, h, a, m => by
    rw [okDeep, Bool.and_eq_true, Bool.or_eq_true] at h
    rcases List.mem_cons.mp m with rfl | m
    · exact h.1.imp id of_decide_eq_true
    · exact okDeep_ok h.2 a m
def fMeth (j : Nat) (l : FL) (op : Op) (f : FA) : FE := fun Γ => match Γ[j]? with
  | some (some b) => match l b Γ with
    | some (k + 1, .lst ds, put) => R.bind (f (Γ.set j none)) fun as Γ1 => match Γ1[j]? with
      | some none => if okDeep k as = true then match op k ds as with
        | some (ds', res) => some (.ok res (Γ1.set j (some (b.1, put (.lst ds')))))
        | none => none else none
      | _ => none
    | _ => none
  | _ => none
theorem tyV_list {p : Addr} {xs : List V} (h : SqL K H p xs) : tyV K "list" (.ref p) H := .inl ⟨rfl, _, h⟩
theorem SndE.meth {r : V → List V → Hp → VK → Prop} {op : Op} {to : TE} {t : TA} {j : Nat} {l : FL} {f : FA} (h : SndL K to j l) (hf : SndA K W t f) (hm : MutS K r op) : SndE K W (tBM K "list" r to t) (fMeth j l op f) := by
  intro Γ res e σ H Sh O G Q q
  unfold fMeth at e
  split at e
  · rename_i b eb
    split at e
    · rename_i k ds put el
      obtain ⟨w, O2, ew, G3, p3⟩ := G.take eb
      obtain ⟨fw, g, rfl, hb, G4, nd, fr⟩ := G3.pop (k := b.1) (d := b.2)
      obtain ⟨v0, f0, rest, hole, run⟩ := h b Γ _ _ _ el σ H Sh O G w fw ew hb
      cases hole.rp with
      | @own k p vs ds fp hp t0 =>
        refine run _ ⟨tyV_list (SqL.of hp), ?_⟩
        unfold R.bind at e
        cases ea : f (Γ.set j none) with
        | none => rw [ea] at e; cases e
        | some r1 =>
          rw [ea] at e
          cases r1 with
          | ex x Γ1 =>
            cases e
            exact hf _ _ ea σ H Sh g G4 _ fun c od H1 Sh1 O1 e1 G1 z => q c od H1 Sh1 O1 (e1.left fun a m => p3.mem_iff.mp (List.mem_append_right _ m)) G1 z
          | ok as Γ1 =>
            refine hf _ _ ea σ H Sh g G4 _ fun vs1 H1 Sh1 O1 l1 e1 G1 => ?_
            dsimp only at e
            split at e
            · rename_i ej
              split at e
              · rename_i od
                split at e
                · rename_i ds' res1 eo
                  cases e
                  -- the list itself is as it was
                  obtain ⟨nf, ng, dis⟩ := nodup_app nd
                  have keep : ∀ x ∈ fw, H1 x = H x := fun x mx => by
                    obtain ⟨o, qo⟩ := Option.ne_none_iff_exists'.mp (hb.there x mx)
                    rw [e1.keep x o qo (dis x mx), qo]
                  have fr1 : ∀ x ∈ fw, Sh1 x = none := fun x mx => e1.out x (hb.there x mx) (dis x mx) (fr x mx)
                  obtain ⟨Sh2, fa, g2, ta, G2, nd2, fra, e2⟩ := G1.gather l1 (okDeep_ok od)
                  have e12 : Evo H Sh g H1 Sh2 (fa ++ g2) := e1.trans e2
                  have keepS : ∀ x ∈ fw, Sh2 x = none := fun x mx => e12.out x (hb.there x mx) (dis x mx) (fr x mx)
                  have hole2 : Hole K Sh2 H1 b.1 w fw (k + 1) (.lst ds) (.ref p) (p :: fp) rest put := hole.mono e12.sh keep
                  have nd3 : (fw ++ (fa ++ g2)).Nodup := by
                    rw [List.nodup_append]
                    refine ⟨nf, nd2, fun x mx y my z => ?_⟩
                    subst z
                    exact (e12.own x my).elim (dis x mx) (hb.there x mx)
                  have fr3 : ∀ x ∈ fw ++ (fa ++ g2), Sh2 x = none := fun x mx => (List.mem_append.mp mx).elim (keepS x) fun mx => (List.mem_append.mp mx).elim (fra x) (G2.fr x)
                  cases hole2.rp with
                  | own hp2 t2 =>
                    obtain ⟨xs', fp2, vr, f2, s, hx, hr, pm, sb, go⟩ := hm k ds as ds' res1 eo Sh2 H1 p _ _ vs1 fa G2.ex t2 ta hp2
                    obtain ⟨O5, G5, e5⟩ := mutate G2 hole2 nd3 fr3 ej ew hx hr pm sb
                    refine go Q (q vr _ Sh2 O5 ?_ G5)
                    have e6 : Evo H Sh (fw ++ g) H1 Sh2 (fw ++ (fa ++ g2)) := e12.frame hb.there
                    exact (e6.trans e5).left fun x mx => p3.mem_iff.mp mx
                · cases e
              · cases e
            · cases e
    · cases e
  · cases e
/-! ### the methods -/
theorem RpA.append : ∀ {k : Nat} {ds es : List D} {vs us : List V} {f g : List Addr}, RpA K Sh H k ds vs f → RpA K Sh H k es us g → RpA K Sh H k (ds ++ es) (vs ++ us) (f ++ g)
  | _, _, _, _, _, _, _, .nil, t => t
  | _, _, _, _, _, _, _, .cons h t, u => by
    rw [List.append_assoc]
    exact .cons h (t.append u)
/-- the item at a place, and the others -/
theorem RpA.erase : ∀ {k : Nat} {ds : List D} {vs : List V} {fp : List Addr} {j : Nat} {d : D}, RpA K Sh H k ds vs fp → ds[j]? = some d → ∃ v f g, vs[j]? = some v ∧ Rp K Sh H k d v f ∧ RpA K Sh H k (ds.eraseIdx j) (vs.eraseIdx j) g ∧ (g ++ f).Perm fp
  | _, _, _, _, j, _, .nil, e => by simp at e
  | _, _, _, _, 0, _, .cons (f := f) (g := g) h t, e => by
    simp at e
    subst e
    exact ⟨_, f, g, rfl, h, t, List.perm_append_comm⟩
  | _, _, _, _, j + 1, _, .cons (f := f) (g := g) h t, e => by
    obtain ⟨v, f0, g0, e1, r, t', p⟩ := t.erase (j := j) (by simpa using e)
    exact ⟨v, f0, f ++ g0, by simpa using e1, r, .cons h t', by rw [List.append_assoc]; exact p.append_left f⟩
theorem dropLast_erase {α : Type} : ∀ (xs : List α), xs.dropLast = xs.eraseIdx (xs.length - 1)
  | [] => rfl
  | [x] => rfl
  | x :: y :: r => by
    have := dropLast_erase (y :: r)
    simp only [List.dropLast_cons₂, this, List.length_cons]
    rfl
def opAppend : Op := fun _ ds as => match as with
  | [a] => if ds.length < LINE then some (ds ++ [a.2], (9, .non)) else none
  | _ => none
theorem MutS.append : MutS K rAppend opAppend := by
  intro k ds as ds' res e Sh H p xs fp vs fa ex t ta hp
  unfold opAppend at e
  split at e
  · rename_i a
    split at e
    · rename_i hl
      cases e
      cases ta with
      | cons h t' =>
        cases t'
        rw [List.append_nil]
        refine ⟨_, _, _, [], _, t.append (.cons h .nil), .non, .refl _, ?_, fun Q q => ⟨p, xs, _, rfl, rfl, hp, line_lt (t.length ▸ hl), q⟩⟩
        simp
    · cases e
  · cases e
def opPop : Op := fun k ds as => match as with
  | [] => match ds[ds.length - 1]? with
    | some d => some (ds.dropLast, (k, d))
    | none => none
  | _ => none
theorem MutS.pop : MutS K rPop opPop := by
  intro k ds as ds' res e Sh H p xs fp vs fa ex t ta hp
  unfold opPop at e
  split at e
  · split at e
    · rename_i d ed
      cases e
      cases ta
      obtain ⟨v, f, g, e1, r, t', pm⟩ := t.erase ed
      rw [List.append_nil]
      refine ⟨xs.dropLast, g, v, f, fp, ?_, r, pm, List.Sublist.refl _, fun Q q => ⟨p, xs, v, rfl, rfl, hp, by rw [← t.length]; exact e1, q⟩⟩
      rw [dropLast_erase ds, dropLast_erase xs, ← t.length]
      exact t'
    · cases e
  · cases e
def opPopAt : Op := fun k ds as => match as with
  | [(_, .int i)] => if -(2 ^ 63) ≤ i ∧ i < 2 ^ 63 then match ixN ds.length i with
    | some m => match ds[m]? with
      | some d => some (ds.eraseIdx m, (k, d))
      | none => none
    | none => none else none
  | _ => none
theorem MutS.popAt : MutS K rPopAt opPopAt := by
  intro k ds as ds' res e Sh H p xs fp vs fa ex t ta hp
  unfold opPopAt at e
  split at e
  · rename_i i
    split at e
    · rename_i hi
      split at e
      · rename_i m em
        split at e
        · rename_i d ed
          cases e
          cases ta with
          | cons h t' =>
            cases t'
            cases h
            obtain ⟨v, f, g, e1, r, t', pm⟩ := t.erase ed
            refine ⟨_, g, v, f, fp, t', r, pm, by simp, fun Q q => ⟨p, xs, i, m, v, rfl, rfl, hp, hi.1, hi.2, ?_, e1, q⟩⟩
            rw [← t.length]
            exact (ixN_seq em).1
        · cases e
      · cases e
    · cases e
  · cases e
end
end Rh
/-! Rh11: defs and their calls. -/
namespace Rh
open PySem L2
/-- how a call ends: the answer, and what the parameters that are handed through hold behind it -/
inductive FR where
  | ret (a : DK) (outs : Gm)
  | exn (x : Xn) (outs : Gm)
abbrev Mir := List DK → Option FR
/-- a def's promise, by its mirror -/
def spM (K : PySem.W.Frag) (n : Nat) (m : Mir) : Sp := fun vs H Q E => vs.length = n ∧ ∃ as Sh O, as.length = vs.length ∧ Rps K (as.map some) (vs.map some) H Sh O ∧ match m as with
  | some (.ret a outs) => ∀ v H' Sh' O', Evo H Sh O H' Sh' O' → Rps K (some a :: outs) (some v :: vs.map some) H' Sh' O' → Q v H'
  | some (.exn x outs) => ∀ cls od H' Sh' O', Evo H Sh O H' Sh' O' → Rps K outs (vs.map some) H' Sh' O' → Xr K Sh' H' x cls od → E cls od H'
  | none => False
section
variable {K : PySem.W.Frag} {W : WX} {fx : List Nat} {Γ Γ' : Gm} {σ σ' : L2.St} {H Sh H' Sh' : Hp} {O O' O2 : List Addr}
/-! ### the body of a def -/
def outsOf : List Bool → Gm → Gm
  | [], _ => []
  | b :: r, s :: Γ => (if b then s else none) :: outsOf r Γ
  | _ :: r, [] => none :: outsOf r []
def fxOf : Nat → List Bool → List Nat
  | _, [] => []
  | i, b :: r => if b then i :: fxOf (i + 1) r else fxOf (i + 1) r
theorem fxOf_mem : ∀ {io : List Bool} {n i : Nat}, io[i]? = some true → n + i ∈ fxOf n io
  | b :: r, n, 0, h => by
    simp at h
    subst h
    simp [fxOf]
  | b :: r, n, i + 1, h => by
    have := fxOf_mem (io := r) (n := n + 1) (i := i) (by simpa using h)
    unfold fxOf
    split
    · exact List.mem_cons_of_mem _ (by rw [show n + (i + 1) = n + 1 + i by omega]; exact this)
    · rw [show n + (i + 1) = n + 1 + i by omega]; exact this
theorem Sl.outs : ∀ {io : List Bool} {Γ : Gm} {σ : L2.St} {O : List Addr} {vs : List V}, Sl K Sh H Γ σ O → io.length = vs.length → io.length ≤ Γ.length → (∀ i : Nat, io[i]? = some true → σ[i]? = (vs.map some)[i]?) →
    ∃ O', Sl K Sh H (outsOf io Γ) (vs.map some) O' ∧ O'.Sublist O
  | [], Γ, σ, O, [], h, _, _, _ => ⟨[], .nil, List.nil_sublist _⟩
  | b :: io, s :: Γ, v' :: σ, O, v :: vs, h, l, l2, q => by
    have q' : ∀ i : Nat, io[i]? = some true → σ[i]? = (vs.map some)[i]? := fun i hi => by simpa using q (i + 1) (by simpa using hi)
    cases h with
    | emp t =>
      obtain ⟨O', t', s'⟩ := t.outs (io := io) (by simpa using l) (by simpa using l2) q'
      refine ⟨O', ?_, s'⟩
      cases b <;> exact .emp t'
    | cons h t =>
      obtain ⟨O', t', s'⟩ := t.outs (io := io) (by simpa using l) (by simpa using l2) q'
      cases b with
      | false => exact ⟨O', .emp t', s'.trans (List.sublist_append_right _ _)⟩
      | true =>
        have e := q 0 rfl
        simp at e
        subst e
        exact ⟨_, .cons h t', s'.append_left _⟩
  | [], _, _, _, _ :: _, _, l, _, _ => by simp at l
  | _ :: _, _, _, _, [], _, l, _, _ => by simp at l
  | _ :: _, [], _, _, _ :: _, _, _, l, _ => by simp at l
  | _ :: _, _ :: _, [], _, _ :: _, h, _, _, _ => by cases h
/-- the mirror of a def: its body on the slots -/
def mirOf (xb : Bool) (N : Nat) (io : List Bool) (g : FS) : Mir := fun as => match g (as.map some ++ List.replicate (N - as.length) none) with
  | some (.nx Γ) => if io.length ≤ Γ.length then some (.ret (9, .non) (outsOf io Γ)) else none
  | some (.rt a Γ) => if io.length ≤ Γ.length then some (.ret a (outsOf io Γ)) else none
  | some (.ex x Γ) => if xb = true ∧ io.length ≤ Γ.length then some (.exn x (outsOf io Γ)) else none
  | _ => none
theorem Sl.nones : ∀ {n : Nat} {Γ : Gm} {σ : L2.St} {O : List Addr}, Sl K Sh H Γ σ O → Sl K Sh H (Γ ++ List.replicate n none) (σ ++ List.replicate n none) O
  | n, _, _, _, .nil => by
    induction n with
    | zero => exact .nil
    | succ n ih => exact .emp ih
  | n, _, _, _, .emp t => .emp t.nones
  | n, _, _, _, .cons h t => .cons h t.nones
theorem Rps.outs {io : List Bool} {vs : List V} (r : Rps K Γ σ H Sh O) (l : io.length = vs.length) (l2 : io.length ≤ Γ.length) {σ0 : L2.St} (f : Fx (fxOf 0 io) (vs.map some ++ σ0) σ) : ∃ O', Rps K (outsOf io Γ) (vs.map some) H Sh O' ∧ ∀ a ∈ O', a ∈ O := by
  obtain ⟨O', t, s⟩ := r.sl.outs (io := io) l l2 fun i hi => by
    have m := fxOf_mem (n := 0) hi
    rw [Nat.zero_add] at m
    rw [f i m, List.getElem?_append_left]
    have := (List.getElem?_eq_some_iff.mp hi).1
    simp
    omega
  exact ⟨O', ⟨t, r.nd.sublist s, fun a m => r.fr a (s.subset m), r.ex⟩, fun a m => s.subset m⟩
theorem Rps.outs1 {io : List Bool} {vs : List V} {a : DK} {v : V} (r : Rps K (some a :: Γ) (some v :: σ) H Sh O) (l : io.length = vs.length) (l2 : io.length ≤ Γ.length) {σ0 : L2.St} (f : Fx (fxOf 0 io) (vs.map some ++ σ0) σ) :
    ∃ O', Rps K (some a :: outsOf io Γ) (some v :: vs.map some) H Sh O' ∧ ∀ a ∈ O', a ∈ O := by
  obtain ⟨g, g', rfl, h, r1, nd, fr⟩ := r.pop (k := a.1) (d := a.2)
  obtain ⟨O', t, s⟩ := r1.sl.outs (io := io) l l2 fun i hi => by
    have m := fxOf_mem (n := 0) hi
    rw [Nat.zero_add] at m
    rw [f i m, List.getElem?_append_left]
    have := (List.getElem?_eq_some_iff.mp hi).1
    simp
    omega
  have sub : (g ++ O').Sublist (g ++ g') := s.append_left g
  exact ⟨g ++ O', ⟨.cons h t, nd.sublist sub, fun a m => r.fr a (sub.subset m), r.ex⟩, fun a m => sub.subset m⟩
/-- a body that a mirror tells -/
theorem body_ok {xb : Bool} {X : Cx} {E : XK} {st : List Stmt} {N : List Str} {n : Nat} {io : List Bool} {g : FS} (hio : io.length = n) (hb : SVs X (fun cls d _ H => E cls d H) (fxOf 0 io) st g) {vs : List V} {H : Hp} {Q : VK} (h : spM X.K n (mirOf xb N.length io g) vs H Q E) :
    ∃ t, PSs X st t ∧ t { nx := fun _ H' => Q .non H', rt := Q } (L2.start N vs) H := by
  obtain ⟨t, ht, sd⟩ := hb
  obtain ⟨ln, as, Sh, O, la, G, h⟩ := h
  refine ⟨t, ht, ?_⟩
  have G0 : Rps X.K (as.map some ++ List.replicate (N.length - as.length) none) (L2.start N vs) H Sh O := by
    unfold L2.start
    rw [la]
    exact ⟨G.sl.nones, G.nd, G.fr, G.ex⟩
  have lio : io.length = vs.length := hio.trans ln.symm
  unfold mirOf at h
  cases eg : g (as.map some ++ List.replicate (N.length - as.length) none) with
  | none => rw [eg] at h; exact h.elim
  | some r =>
    rw [eg] at h
    refine sd _ r eg (L2.start N vs) H Sh O G0 _ ?_
    cases r with
    | nx Γ =>
      dsimp only at h
      split at h
      · rename_i a outs e1
        split at e1
        · rename_i hl
          cases e1
          intro σ' H' Sh' O' f e G'
          obtain ⟨O2, G2, s⟩ := (G'.push0 (k := 9) .non).outs1 lio hl f
          exact h _ H' Sh' O2 (e.sub s) G2
        · cases e1
      · rename_i e1; split at e1 <;> cases e1
      · exact h.elim
    | rt a Γ =>
      dsimp only at h
      split at h
      · rename_i a outs e1
        split at e1
        · rename_i hl
          cases e1
          intro v σ' H' Sh' O' f e G'
          obtain ⟨O2, G2, s⟩ := G'.outs1 lio hl f
          exact h _ H' Sh' O2 (e.sub s) G2
        · cases e1
      · rename_i e1; split at e1 <;> cases e1
      · exact h.elim
    | ex x Γ =>
      dsimp only at h
      split at h
      · rename_i e1; split at e1 <;> cases e1
      · rename_i x outs e1
        split at e1
        · rename_i hl
          cases e1
          intro cls od σ' H' Sh' O' f e G' z
          obtain ⟨O2, G2, s⟩ := G'.outs lio hl.2 f
          exact h _ _ H' Sh' O2 (e.sub s) G2 z
        · cases e1
      · exact h.elim
    | bk Γ => exact h.elim
    | ct Γ => exact h.elim
end
section
variable {P : Program} {w : World} {K : PySem.W.Frag} {mg : Str → Option Value} {base : Heap}
theorem okM {x qual : Str} {st : Stmt} {f : Addr} {fd : FuncData} {N ps : List Str} {k : Nat} {io : List Bool} {g : FS} (F : Fun K x qual st f fd) (S : FnScope N ps (defScope st)) (hio : io.length = ps.length)
    (hb : ∀ (cdv : Value) (A : Around) (outer : List PySem.Env) (s : Shared) (H : Hp) (E : XK), Room k (A.deeper (PyProof.Rows.envOfC qual (defScope st) s.heap.objs.size f cdv)) →
      SVs (cxOf CX0 P w K mg base N qual (defScope st) f cdv A outer s H E).nox (fun _ _ _ _ => False) (fxOf 0 io) (defBody st) g) : FnOk P w K mg base CX0 (k + 1) f fd ps (spM K ps.length (mirOf false N.length io g)) :=
  F.ok S (fun vs H Q E h => h.1) fun cdv A outer s H vs Q E hr h => by
    refine body_ok (xb := false) (E := fun _ _ _ => False) hio (hb cdv A outer s H E hr) ?_
    obtain ⟨h1, as, Sh, O, h2, h3, h4⟩ := h
    refine ⟨h1, as, Sh, O, h2, h3, ?_⟩
    cases e : mirOf false N.length io g as with
    | none => rw [e] at h4; exact h4
    | some r =>
    rw [e] at h4
    cases r with
    | ret a outs => exact h4
    | exn x outs =>
      unfold mirOf at e
      split at e
      · split at e <;> cases e
      · split at e <;> cases e
      · split at e
        · rename_i q
          exact absurd q.1 Bool.false_ne_true
        · cases e
      · cases e
/-- .. that may raise -/
theorem okMX {x qual : Str} {st : Stmt} {f : Addr} {fd : FuncData} {N ps : List Str} {k : Nat} {io : List Bool} {g : FS} (F : Fun K x qual st f fd) (S : FnScope N ps (defScope st)) (hio : io.length = ps.length)
    (hb : ∀ (cdv : Value) (A : Around) (outer : List PySem.Env) (s : Shared) (H : Hp) (E : XK), Room k (A.deeper (PyProof.Rows.envOfC qual (defScope st) s.heap.objs.size f cdv)) →
      SVs (cxOf (L2.CX P w) P w K mg base N qual (defScope st) f cdv A outer s H E) (fun cls d _ H => E cls d H) (fxOf 0 io) (defBody st) g) : FnOk P w K mg base (L2.CX P w) (k + 1) f fd ps (spM K ps.length (mirOf true N.length io g)) :=
  F.okX S (fun vs H Q E h => h.1) fun cdv A outer s H vs Q E hr h => body_ok (xb := true) hio (hb cdv A outer s H E hr) h
end
end Rh
/-! Rh12: calls of defs. -/
namespace Rh
open PySem L2
section
variable {K : PySem.W.Frag} {W : WX} {fx : List Nat} {Γ Γ' : Gm} {σ σ' : L2.St} {H Sh H' Sh' : Hp} {O O' O2 : List Addr}
/-! ### arguments: values, or slots handed through -/
abbrev FC := Gm → Option (R Gm)
def GotC (K : PySem.W.Frag) (W : WX) (ios : List (Option Nat)) (σ : L2.St) (H Sh : Hp) (O : List Addr) (Q : List V → Hp → Prop) : R Gm → Prop
  | .ok os Γ' => ∀ vs H' Sh' O', os.length = vs.length → Evo H Sh O H' Sh' O' → Rps K (os ++ Γ') (vs.map some ++ σ) H' Sh' O' → (∀ (i j : Nat), ios[i]? = some (some j) → (vs.map some)[i]? = σ[j]?) → Q vs H'
  | .ex x Γ' => ∀ cls od H' Sh' O', Evo H Sh O H' Sh' O' → Rps K Γ' σ H' Sh' O' → Xr K Sh' H' x cls od → W cls od σ H'
def SndC (K : PySem.W.Frag) (W : WX) (ios : List (Option Nat)) (t : TA) (f : FC) : Prop := ∀ Γ r, f Γ = some r → ∀ σ H Sh O, Rps K Γ σ H Sh O → ∀ Q, GotC K W ios σ H Sh O Q r → t σ H Q
def cNil : FC := fun Γ => some (.ok [] Γ)
def cVal (f : FE) (r : FC) : FC := fun Γ => R.bind (f Γ) fun a Γ1 => R.bind (r Γ1) fun os Γ2 => some (.ok (some a :: os) Γ2)
def cIo (j : Nat) (r : FC) : FC := fun Γ => match Γ[j]? with
  | some (some _) => R.bind (r Γ) fun os Γ2 => some (.ok (none :: os) Γ2)
  | _ => none
theorem SndC.nil : SndC K W [] tNil cNil := by
  intro Γ r e σ H Sh O G Q q
  cases e
  exact q [] H Sh O rfl Evo.refl G fun i j h => by simp at h
theorem SndC.val {ios : List (Option Nat)} {ta : TE} {tr : TA} {fa : FE} {fr : FC} (ha : SndE K W ta fa) (hr : SndC K W ios tr fr) : SndC K W (none :: ios) (tCons ta tr) (cVal fa fr) := by
  intro Γ r e σ H Sh O G Q q
  unfold cVal R.bind at e
  cases ea : fa Γ with
  | none => rw [ea] at e; cases e
  | some r1 =>
    rw [ea] at e
    cases r1 with
    | ex x Γ1 => cases e; exact ha Γ _ ea σ H Sh O G _ q
    | ok a Γ1 =>
      refine ha Γ _ ea σ H Sh O G _ fun v H1 Sh1 O1 e1 G1 => ?_
      obtain ⟨f, g, rfl, h, r1, nd, fr'⟩ := G1.pop (k := a.1) (d := a.2)
      dsimp only at e
      cases eb : fr Γ1 with
      | none => rw [eb] at e; cases e
      | some r2 =>
        rw [eb] at e
        cases r2 with
        | ex x Γ2 =>
          cases e
          exact hr Γ1 _ eb σ H1 Sh1 g r1 _ fun c od H2 Sh2 O2 e2 G2 z => q c od H2 Sh2 O2 ((e1.sub fun a m => List.mem_append_right _ m).trans e2) G2 z
        | ok os Γ2 =>
          cases e
          refine hr Γ1 _ eb σ H1 Sh1 g r1 _ fun vs H2 Sh2 O2 l2 e2 G2 hio => ?_
          obtain ⟨G3, e3⟩ := Rps.over h r1 nd fr' e2 G2
          refine q (v :: vs) H2 Sh2 _ (congrArg (· + 1) l2) (e1.trans e3) G3 fun i j hi => ?_
          cases i with
          | zero => simp at hi
          | succ i => simpa using hio i j (by simpa using hi)
theorem SndC.io {ios : List (Option Nat)} {j : Nat} {tr : TA} {fr : FC} (hr : SndC K W ios tr fr) : SndC K W (some j :: ios) (tCons (tVar j) tr) (cIo j fr) := by
  intro Γ r e σ H Sh O G Q q
  unfold cIo R.bind at e
  split at e
  · rename_i a ea
    obtain ⟨v, f, g, ev, _, _, _⟩ := G.sl.get ea
    refine ⟨v, ev, ?_⟩
    cases eb : fr Γ with
    | none => rw [eb] at e; cases e
    | some r2 =>
      rw [eb] at e
      cases r2 with
      | ex x Γ2 => cases e; exact hr Γ _ eb σ H Sh O G _ q
      | ok os Γ2 =>
        cases e
        refine hr Γ _ eb σ H Sh O G _ fun vs H2 Sh2 O2 l2 e2 G2 hio => ?_
        refine q (v :: vs) H2 Sh2 O2 (congrArg (· + 1) l2) e2 ⟨.emp G2.sl, G2.nd, G2.fr, G2.ex⟩ fun i k hi => ?_
        cases i with
        | zero => simp at hi; subst hi; simp [ev]
        | succ i => simpa using hio i k (by simpa using hi)
  · cases e
/-- what slot jj holds goes to slot i -/
def mv (i jj : Nat) (Γ : Gm) : Option Gm := match Γ[jj]?, Γ[i]? with
  | some (some a), some none => some ((Γ.set jj none).set i (some a))
  | _, _ => none
theorem Rps.mv {i jj : Nat} (e : mv i jj Γ = some Γ') (eq : σ[i]? = σ[jj]?) (G : Rps K Γ σ H Sh O) : ∃ O', Rps K Γ' σ H Sh O' ∧ O'.Perm O := by
  unfold Rh.mv at e
  split at e
  · rename_i a e1 e2
    cases e
    obtain ⟨v, O1, ev, G1, p1⟩ := G.take e1
    have ne : jj ≠ i := fun z => by subst z; rw [e1] at e2; cases e2
    obtain ⟨O2, G2, p2⟩ := G1.back (i := i) (by rw [List.getElem?_set_ne ne]; exact e2) (eq.trans ev)
    exact ⟨O2, G2, p2.trans p1⟩
  · cases e
def mvs : List (Nat × Nat) → Gm → Option Gm
  | [], Γ => some Γ
  | (i, jj) :: r, Γ => match mv i jj Γ with
    | some Γ1 => mvs r Γ1
    | none => none
theorem Rps.mvs : ∀ {ps : List (Nat × Nat)} {Γ Γ' : Gm} {O : List Addr}, Rh.mvs ps Γ = some Γ' → (∀ p ∈ ps, σ[p.1]? = σ[p.2]?) → Rps K Γ σ H Sh O → ∃ O', Rps K Γ' σ H Sh O' ∧ O'.Perm O
  | [], Γ, Γ', O, e, _, G => by cases e; exact ⟨O, G, .refl _⟩
  | (i, jj) :: r, Γ, Γ', O, e, q, G => by
    unfold Rh.mvs at e
    split at e
    · rename_i Γ1 e1
      obtain ⟨O1, G1, p1⟩ := G.mv e1 (q (i, jj) List.mem_cons_self)
      obtain ⟨O2, G2, p2⟩ := Rps.mvs e (fun p m => q p (List.mem_cons_of_mem _ m)) G1
      exact ⟨O2, G2, p2.trans p1⟩
    · cases e
/-- the pairs (place of the argument, slot behind n) -/
def prs (n : Nat) : Nat → List (Option Nat) → List (Nat × Nat)
  | _, [] => []
  | i, none :: r => prs n (i + 1) r
  | i, some j :: r => (i, n + j) :: prs n (i + 1) r
theorem prs_mem {n : Nat} : ∀ {ios : List (Option Nat)} {k : Nat} {p : Nat × Nat}, p ∈ prs n k ios → ∃ i j, ios[i]? = some (some j) ∧ p = (k + i, n + j)
  | none :: r, k, p, h => by
    obtain ⟨i, j, e, q⟩ := prs_mem (ios := r) (k := k + 1) (by simpa [prs] using h)
    exact ⟨i + 1, j, by simpa using e, by rw [q, show k + 1 + i = k + (i + 1) by omega]⟩
  | some j :: r, k, p, h => by
    rcases List.mem_cons.mp (show p ∈ (k, n + j) :: prs n (k + 1) r from h) with e | h
    · exact ⟨0, j, rfl, e⟩
    · obtain ⟨i, j', e, q⟩ := prs_mem (ios := r) (k := k + 1) h
      exact ⟨i + 1, j', by simpa using e, by rw [q, show k + 1 + i = k + (i + 1) by omega]⟩
def getAll : Gm → Option (List DK)
  | [] => some []
  | some a :: r => (getAll r).map (a :: ·)
  | none :: _ => none
theorem getAll_eq : ∀ {Γ : Gm} {as : List DK}, getAll Γ = some as → Γ = as.map some
  | [], as, e => by cases e; rfl
  | some a :: r, as, e => by
    simp only [getAll, Option.map_eq_some_iff] at e
    obtain ⟨as', e1, rfl⟩ := e
    rw [getAll_eq e1]
    rfl
  | none :: r, as, e => by cases e
theorem Sl.split : ∀ {Γa Γb : Gm} {σa σb : L2.St} {O : List Addr}, Sl K Sh H (Γa ++ Γb) (σa ++ σb) O → Γa.length = σa.length → ∃ Oa Ob, O = Oa ++ Ob ∧ Sl K Sh H Γa σa Oa ∧ Sl K Sh H Γb σb Ob
  | [], Γb, [], σb, O, h, _ => ⟨[], O, rfl, .nil, h⟩
  | s :: Γa, Γb, v :: σa, σb, O, h, l => by
    have l' : Γa.length = σa.length := by simpa using l
    cases h with
    | emp t =>
      obtain ⟨Oa, Ob, rfl, ha, hb⟩ := Sl.split t l'
      exact ⟨Oa, Ob, rfl, .emp ha, hb⟩
    | cons h t =>
      obtain ⟨Oa, Ob, rfl, ha, hb⟩ := Sl.split t l'
      exact ⟨_ ++ Oa, Ob, by simp, .cons h ha, hb⟩
  | [], _, _ :: _, _, _, _, l => by simp at l
  | _ :: _, _, [], _, _, _, l => by simp at l
theorem Sl.append : ∀ {Γa Γb : Gm} {σa σb : L2.St} {Oa Ob : List Addr}, Sl K Sh H Γa σa Oa → Sl K Sh H Γb σb Ob → Sl K Sh H (Γa ++ Γb) (σa ++ σb) (Oa ++ Ob)
  | _, _, _, _, _, _, .nil, t => t
  | _, _, _, _, _, _, .emp s, t => .emp (s.append t)
  | _, _, _, _, _, _, .cons h s, t => by
    rw [List.append_assoc]
    exact .cons h (s.append t)
/-- plain values that a def's defaults are -/
def dflt (dds : List DK) (dvs : List V) : Prop := dds.map (fun a => a.2.sv) = dvs.map some
theorem dflt_sl : ∀ {dds : List DK} {dvs : List V}, dflt dds dvs → Sl K Sh H (dds.map some) (dvs.map some) []
  | [], [], _ => .nil
  | a :: r, v :: vs, h => by
    have h1 : a.2.sv = some v := by have := congrArg List.head? h; simpa using this
    have h2 : dflt r vs := by have := congrArg List.tail h; exact (by simpa using this : r.map (fun a => a.2.sv) = vs.map some)
    exact .cons (f := []) (D.sv_rp h1 a.1) (dflt_sl h2)
  | [], _ :: _, h => by simp [dflt] at h
  | _ :: _, [], h => by simp [dflt] at h
def restore (n : Nat) (ios : List (Option Nat)) (m : Nat) (outs Γ2 : Gm) : Option Gm :=
  if outs.length = n + m then (mvs ((prs n 0 ios).map fun p => (p.2, p.1)) (outs.take n ++ Γ2)).map fun Γ3 => Γ3.drop n else none
def fCallM (xb : Bool) (m : Mir) (ios : List (Option Nat)) (dds : List DK) (f : FC) : FE := fun Γ => R.bind (f Γ) fun os Γ1 =>
  match mvs (prs os.length 0 ios) (os ++ Γ1) with
  | none => none
  | some Γ2 => match getAll (Γ2.take os.length) with
    | none => none
    | some as => match m (as ++ dds) with
      | some (.ret a outs) => (restore os.length ios dds.length outs (Γ2.drop os.length)).map fun Γ3 => .ok a Γ3
      | some (.exn x outs) => if xb = true then (restore os.length ios dds.length outs (Γ2.drop os.length)).map fun Γ3 => .ex x Γ3 else none
      | none => none
theorem mvs_length : ∀ {ps : List (Nat × Nat)} {Γ Γ' : Gm}, mvs ps Γ = some Γ' → Γ'.length = Γ.length
  | [], Γ, Γ', e => by cases e; rfl
  | (i, jj) :: r, Γ, Γ', e => by
    unfold mvs at e
    split at e
    · rename_i Γ1 e1
      rw [mvs_length e]
      unfold mv at e1
      split at e1
      · cases e1; simp
      · cases e1
    · cases e
theorem pos_eq {vs : List V} {n j i : Nat} (hn : n = vs.length) (q : (vs.map some)[i]? = σ[j]?) (hi : i < n) : (vs.map some ++ σ)[i]? = (vs.map some ++ σ)[n + j]? := by
  rw [List.getElem?_append_left (by simp; omega), List.getElem?_append_right (by simp; omega), q]
  simp [hn]
/-- behind a call the arguments that were handed through go back -/
theorem restore_ok {n : Nat} {ios : List (Option Nat)} {m : Nat} {outs Γb Γ3 : Gm} {vs dvs : List V} (e : restore n ios m outs Γb = some Γ3) (hn : n = vs.length) (hl : ios.length ≤ n) (hio : ∀ (i j : Nat), ios[i]? = some (some j) → (vs.map some)[i]? = σ[j]?)
    {s : List (Option DK)} {z : L2.St} (sl : s.length = z.length) (so : outs.length = vs.length + dvs.length) {O1 Ob : List Addr} (h : Sl K Sh H (s ++ outs) (z ++ (vs ++ dvs).map some) O1) (hb : Sl K Sh H Γb σ Ob) :
    ∃ O', Sl K Sh H (s ++ Γ3) (z ++ σ) O' ∧ ((O1 ++ Ob).Nodup → O'.Nodup) ∧ ∀ a ∈ O', a ∈ O1 ++ Ob := by
  unfold restore at e
  split at e
  · rw [Option.map_eq_some_iff] at e
    obtain ⟨Γ4, e4, rfl⟩ := e
    obtain ⟨Os, Oo, rfl, h1, h2⟩ := h.split sl
    have h2' : Sl K Sh H (outs.take n ++ outs.drop n) (vs.map some ++ dvs.map some) Oo := by
      rw [List.take_append_drop, ← List.map_append]
      exact h2
    obtain ⟨Oa, Od, rfl, h3, _⟩ := h2'.split (by simp; omega)
    have r0 : Sl K Sh H (outs.take n ++ Γb) (vs.map some ++ σ) (Oa ++ Ob) := h3.append hb
    -- moves keep the parts
    have mvsl : ∀ (ps : List (Nat × Nat)) (Γ Γ' : Gm) (σ : L2.St) (O : List Addr), mvs ps Γ = some Γ' → (∀ p ∈ ps, σ[p.1]? = σ[p.2]?) → Sl K Sh H Γ σ O → ∃ O', Sl K Sh H Γ' σ O' ∧ O'.Perm O := by
      intro ps
      induction ps with
      | nil => intro Γ Γ' σ O e _ t; cases e; exact ⟨O, t, .refl _⟩
      | cons p r ih =>
        intro Γ Γ' σ O e q t
        obtain ⟨i, jj⟩ := p
        unfold mvs at e
        split at e
        · rename_i Γ1 e1
          unfold mv at e1
          split at e1
          · rename_i a ea eb
            cases e1
            obtain ⟨v, f, g, ev, hr, t', pm⟩ := t.get ea
            have ne : jj ≠ i := fun z => by subst z; rw [ea] at eb; cases eb
            obtain ⟨O2, t2, p2⟩ := t'.put (i := i) (by rw [List.getElem?_set_ne ne]; exact eb) ((q (i, jj) List.mem_cons_self).trans ev) hr
            obtain ⟨O3, t3, p3⟩ := ih _ _ _ _ e (fun p m => q p (List.mem_cons_of_mem _ m)) t2
            exact ⟨O3, t3, (p3.trans p2).trans pm⟩
          · cases e1
        · cases e
    obtain ⟨O5, h5, p5⟩ := mvsl _ _ _ _ _ e4 (fun p hp => by
      rw [List.mem_map] at hp
      obtain ⟨p', hp', rfl⟩ := hp
      obtain ⟨i, j, ei, rfl⟩ := prs_mem hp'
      have hi : i < n := by
        have := (List.getElem?_eq_some_iff.mp ei).1
        omega
      simp only [Nat.zero_add]
      exact (pos_eq hn (hio i j ei) hi).symm) r0
    have h5' : Sl K Sh H (Γ4.take n ++ Γ4.drop n) (vs.map some ++ σ) O5 := by rw [List.take_append_drop]; exact h5
    have l4 : Γ4.length = (outs.take n ++ Γb).length := mvs_length e4
    obtain ⟨Ox, Oy, rfl, _, h7⟩ := h5'.split (by simp; simp at l4; omega)
    have p6 : (Os ++ (Ox ++ Oy)).Perm (Os ++ (Oa ++ Ob)) := p5.append_left Os
    have s6 : (Os ++ (Oa ++ Ob)).Sublist (Os ++ (Oa ++ Od) ++ Ob) := by
      rw [List.append_assoc]
      exact ((List.sublist_append_left Oa Od).append_right Ob).append_left Os
    have s7 : (Os ++ Oy).Sublist (Os ++ (Ox ++ Oy)) := (List.sublist_append_right Ox Oy).append_left Os
    exact ⟨Os ++ Oy, h1.append h7, fun nd => (p6.nodup_iff.mpr (nd.sublist s6)).sublist s7, fun a m => s6.subset (p6.mem_iff.mp (s7.subset m))⟩
  · cases e
/-- the call itself -/
theorem callM_sp {xb : Bool} {n : Nat} {m : Mir} {ios : List (Option Nat)} {dds : List DK} {dvs : List V} {res : R DK} {os Γ1 : Gm} (hn : ios.length + dds.length = n) (hd : dflt dds dvs)
    (e : (match mvs (prs os.length 0 ios) (os ++ Γ1) with
      | none => none
      | some Γ2 => match getAll (Γ2.take os.length) with
        | none => none
        | some as => match m (as ++ dds) with
          | some (.ret a outs) => (restore os.length ios dds.length outs (Γ2.drop os.length)).map fun Γ3 => R.ok a Γ3
          | some (.exn x outs) => if xb = true then (restore os.length ios dds.length outs (Γ2.drop os.length)).map fun Γ3 => R.ex x Γ3 else none
          | none => none) = some res)
    {vs : List V} (lv : os.length = vs.length) (li : os.length = ios.length) (G : Rps K (os ++ Γ1) (vs.map some ++ σ) H Sh O) (hio : ∀ (i j : Nat), ios[i]? = some (some j) → (vs.map some)[i]? = σ[j]?) {Q : VK} (q : Got K W σ H Sh O Q res)
    {E : XK} (hE : ∀ c od H', W c od σ H' → E c od H') : spM K n m (vs ++ dvs) H Q (fun c od H' => xb = true ∧ E c od H') := by
  split at e
  · cases e
  · rename_i Γ2 e2
    split at e
    · cases e
    · rename_i as ea
      obtain ⟨O2, G2, p2⟩ := G.mvs e2 fun p hp => by
        obtain ⟨i, j, ei, rfl⟩ := prs_mem hp
        have hi : i < os.length := by
          have := (List.getElem?_eq_some_iff.mp ei).1
          omega
        simp only [Nat.zero_add]
        exact pos_eq lv (hio i j ei) hi
      have l2 : Γ2.length = (os ++ Γ1).length := mvs_length e2
      have eq2 : Γ2.take os.length ++ Γ2.drop os.length = Γ2 := List.take_append_drop _ _
      have sl2 : Sl K Sh H (Γ2.take os.length ++ Γ2.drop os.length) (vs.map some ++ σ) O2 := by rw [eq2]; exact G2.sl
      obtain ⟨Oa, Ob, rfl, ha, hb⟩ := sl2.split (by simp; simp at l2; omega)
      have eas := getAll_eq ea
      rw [eas] at ha
      have las : as.length = vs.length := by
        have := congrArg List.length eas
        simp at this l2
        omega
      obtain ⟨na, nb, dis⟩ := nodup_app G2.nd
      have Ga : Rps K ((as ++ dds).map some) ((vs ++ dvs).map some) H Sh Oa := by
        rw [List.map_append, List.map_append]
        have := ha.append (dflt_sl hd)
        rw [List.append_nil] at this
        exact ⟨this, na, fun a m => G2.fr a (List.mem_append_left _ m), G2.ex⟩
      have ldd : dds.length = dvs.length := by
        have := congrArg List.length hd
        simpa using this
      refine ⟨by simp; omega, as ++ dds, Sh, Oa, by simp; omega, Ga, ?_⟩
      -- what is behind, whatever the answer
      have after : ∀ {s : List (Option DK)} {z : L2.St} {outs Γ3 : Gm} {H' Sh' : Hp} {O' : List Addr}, s.length = z.length → restore os.length ios dds.length outs (Γ2.drop os.length) = some Γ3 → Evo H Sh Oa H' Sh' O' → Rps K (s ++ outs) (z ++ (vs ++ dvs).map some) H' Sh' O' →
          ∃ O3, Evo H Sh O H' Sh' O3 ∧ Rps K (s ++ Γ3) (z ++ σ) H' Sh' O3 := by
        intro s z outs Γ3 H' Sh' O' sz er ev G'
        have disb : ∀ a ∈ Ob, a ∉ Oa := fun a mb ma => dis a ma mb
        have hb' : Sl K Sh' H' (Γ2.drop os.length) σ Ob := hb.mono ev.sh fun a m => by
          obtain ⟨o, qo⟩ := Option.ne_none_iff_exists'.mp (hb.there a m)
          rw [ev.keep a o qo (disb a m), qo]
        have lo : outs.length = vs.length + dvs.length := by
          have := G'.sl.length
          simp at this
          omega
        obtain ⟨O3, h3, n3, s3⟩ := restore_ok er lv (by omega) hio sz lo G'.sl hb'
        have nd' : (O' ++ Ob).Nodup := by
          rw [List.nodup_append]
          refine ⟨G'.nd, nb, fun a ma b mb z => ?_⟩
          subst z
          exact (ev.own a ma).elim (disb a mb) (hb.there a mb)
        have frb : ∀ a ∈ Ob, Sh' a = none := fun a m => ev.out a (hb.there a m) (disb a m) (G2.fr a (List.mem_append_right _ m))
        refine ⟨O3, ⟨ev.sh, fun a o ha' n => ev.keep a o ha' fun m => n (p2.mem_iff.mp (List.mem_append_left _ m)), fun a ha' n z => ev.out a ha' (fun m => n (p2.mem_iff.mp (List.mem_append_left _ m))) z, fun a m => ?_⟩, h3, n3 nd', fun a m => (List.mem_append.mp (s3 a m)).elim (G'.fr a) (frb a), G'.ex⟩
        exact (List.mem_append.mp (s3 a m)).elim (fun m => (ev.own a m).imp (fun m => p2.mem_iff.mp (List.mem_append_left _ m)) id) fun m => .inl (p2.mem_iff.mp (List.mem_append_right _ m))
      split at e
      · rename_i a outs em
        try rw [em]
        try dsimp only
        rw [Option.map_eq_some_iff] at e
        obtain ⟨Γ3, e3, rfl⟩ := e
        intro v H' Sh' O' ev G'
        obtain ⟨O3, ev3, G3⟩ := after (s := [some a]) (z := [some v]) rfl e3 ev G'
        exact q v H' Sh' O3 ev3 G3
      · rename_i x outs em
        try rw [em]
        try dsimp only
        split at e
        · rename_i hx
          rw [Option.map_eq_some_iff] at e
          obtain ⟨Γ3, e3, rfl⟩ := e
          intro c od H' Sh' O' ev G' z
          obtain ⟨O3, ev3, G3⟩ := after (s := []) (z := []) rfl e3 ev G'
          exact ⟨hx, hE c od H' (q c od H' Sh' O3 ev3 G3 z)⟩
        · cases e
      · cases e
/-- the arguments are as many as the places -/
def fCk (n : Nat) (f : FC) : FC := fun Γ => match f Γ with
  | some (.ok os Γ1) => if os.length = n then some (.ok os Γ1) else none
  | r => r
theorem SndC.ck {ios : List (Option Nat)} {t : TA} {f : FC} {n : Nat} (h : SndC K W ios t f) : SndC K W ios t (fCk n f) := by
  intro Γ r e σ H Sh O G Q q
  unfold fCk at e
  split at e
  · rename_i os Γ1 ea
    split at e
    · cases e
      exact h Γ _ ea σ H Sh O G Q q
    · cases e
  · exact h Γ _ e σ H Sh O G Q q
theorem spM_imp {n : Nat} {m : Mir} {vs : List V} {Q : VK} {E E' : XK} (h : spM K n m vs H Q E) (i : ∀ c od H', E c od H' → E' c od H') : spM K n m vs H Q E' := by
  obtain ⟨h1, as, Sh, O, h2, h3, h4⟩ := h
  refine ⟨h1, as, Sh, O, h2, h3, ?_⟩
  split at h4
  · exact h4
  · exact fun c od H' Sh' O' ev G z => i c od H' (h4 c od H' Sh' O' ev G z)
  · exact h4.elim
theorem GotC.len {ios : List (Option Nat)} {t : TA} {f : FC} {n : Nat} {Γ Γ1 : Gm} {os : Gm} (e : fCk n f Γ = some (.ok os Γ1)) : os.length = n := by
  unfold fCk at e
  split at e
  · split at e
    · cases e; assumption
    · cases e
  · rename_i q
    exact (q _ _ e).elim
theorem SndE.callM {n : Nat} {m : Mir} {ios : List (Option Nat)} {dds : List DK} {dvs : List V} {t : TA} {f : FC} (h : SndC K W ios t f) (hn : ios.length + dds.length = n) (hd : dflt dds dvs) :
    SndE K W (tCall (spM K n m) dvs E0 t) (fCallM false m ios dds (fCk ios.length f)) := by
  intro Γ res e σ H Sh O G Q q
  unfold fCallM R.bind at e
  cases ea : fCk ios.length f Γ with
  | none => rw [ea] at e; cases e
  | some r1 =>
    rw [ea] at e
    cases r1 with
    | ex x Γ1 => cases e; exact h.ck Γ _ ea σ H Sh O G _ q
    | ok os Γ1 =>
      refine h.ck Γ _ ea σ H Sh O G _ fun vs H1 Sh1 O1 l1 e1 G1 hio => ?_
      exact spM_imp (callM_sp (xb := false) hn hd e l1 (GotC.len (ios := ios) (t := t) ea) G1 hio (q.step e1) (E := fun c od H' => W c od σ H') fun _ _ _ z => z) fun _ _ _ z => absurd z.1 Bool.false_ne_true
theorem SndE.callMX {n : Nat} {m : Mir} {ios : List (Option Nat)} {t : TA} {f : FC} (h : SndC K W ios t f) (hn : ios.length = n) :
    SndE K W (tCallS (spM K n m) (WE W) t) (fCallM true m ios [] (fCk ios.length f)) := by
  intro Γ res e σ H Sh O G Q q
  unfold fCallM R.bind at e
  cases ea : fCk ios.length f Γ with
  | none => rw [ea] at e; cases e
  | some r1 =>
    rw [ea] at e
    cases r1 with
    | ex x Γ1 => cases e; exact h.ck Γ _ ea σ H Sh O G _ q
    | ok os Γ1 =>
      refine h.ck Γ _ ea σ H Sh O G _ fun vs H1 Sh1 O1 l1 e1 G1 hio => ?_
      have r := spM_imp (callM_sp (xb := true) (dds := []) (dvs := []) (n := n) (by simpa using hn) rfl e l1 (GotC.len (ios := ios) (t := t) ea) G1 hio (q.step e1) (E := fun c od H' => W c od σ H') fun _ _ _ z => z) (E' := WE W σ) fun _ _ _ z => z.2
      rw [List.append_nil] at r
      exact r
end
end Rh
/-! Rh13: the rules by the text's trees: what the printed derivations are made of. -/
namespace Rh
open PySem L2
/-- a call's answer by its place in the module: where the def stands, what it keeps -/
structure Dok (P : Program) (w : World) (K : PySem.W.Frag) (mg : Str → Option Value) (base : Heap) (CX : CXT) (x : Str) (ps : List Str) (k : Nat) (m : Mir) (dds : List DK) : Prop where
  ex : ∃ (f : Addr) (fd : FuncData) (ds : List Value) (dvs : List V), FnOk P w K mg base CX k f fd ps (spM K ps.length m) ∧ mg x = some (.ref f) ∧ PySem.W.keepIn K (.ref f) = true ∧ Binds K fd ps ds ∧ Vals dvs ds ∧ dflt dds dvs
theorem Dok.mk0 {P : Program} {w : World} {K : PySem.W.Frag} {mg : Str → Option Value} {base : Heap} {CX : CXT} {x : Str} {ps : List Str} {k : Nat} {m : Mir} {f : Addr} {fd : FuncData} (F : FnOk P w K mg base CX k f fd ps (spM K ps.length m)) (hm : mg x = some (.ref f)) (hk : PySem.W.keepIn K (.ref f) = true) (hb : Binds K fd ps []) :
    Dok P w K mg base CX x ps k m [] := ⟨f, fd, [], [], F, hm, hk, hb, .nil, rfl⟩
section
variable {X : Cx} {W : WX} {fx : List Nat} {a b c e o : Expr} {es : List Expr} {pos pq pos' : Pos} {fa fb fc : FE} {pa pb : FP} {ta tb : FT} {fs : FA} {ps : FPA} {st : Stmt} {sts sts' : List Stmt} {g g' : FS}
/-! ### names, constants -/
theorem pp_name (i : Nat) {x : Str} (hN : X.N[i]? = some x := by rfl) (hv : Vis X.env.scope x := by first | exact Or.inl rfl | exact Or.inr (Or.inl rfl) | exact Or.inr (Or.inr rfl)) (hd : (x == ("__debug__" : Str)) = false := by decide)
    (hcd : (x == ("__classdict__" : Str)) = false := by decide) : PP X (.Name x pos) (pName i) := ⟨_, pe_var hN hv hd hcd, SndP.name⟩
theorem pv_mv (i : Nat) {x : Str} (hN : X.N[i]? = some x := by rfl) (hv : Vis X.env.scope x := by first | exact Or.inl rfl | exact Or.inr (Or.inl rfl) | exact Or.inr (Or.inr rfl)) (hd : (x == ("__debug__" : Str)) = false := by decide)
    (hcd : (x == ("__classdict__" : Str)) = false := by decide) : PV X W (.Name x pos) (fMv i) := ⟨_, pe_var hN hv hd hcd, SndE.mv⟩
theorem pv_fz (i : Nat) {x : Str} (hN : X.N[i]? = some x := by rfl) (hv : Vis X.env.scope x := by first | exact Or.inl rfl | exact Or.inr (Or.inl rfl) | exact Or.inr (Or.inr rfl)) (hd : (x == ("__debug__" : Str)) = false := by decide)
    (hcd : (x == ("__classdict__" : Str)) = false := by decide) : PV X W (.Name x pos) (fFz i) := ⟨_, pe_var hN hv hd hcd, SndE.fz⟩
theorem pv_pp (h : PP X e pa) : PV X W e (fP pa) := let ⟨t, h1, h2⟩ := h; ⟨t, h1, h2.e⟩
theorem pp_int {i : Int} {j : Nat} : PP X (.Constant (.int i) j pos) (fun _ => some (9, .int i)) := ⟨_, pe_int, SndP.con rfl⟩
theorem pp_str {x : Str} {j : Nat} : PP X (.Constant (.str x) j pos) (fun _ => some (9, .str x)) := ⟨_, pe_str, SndP.con rfl⟩
theorem pp_bl {x : Bool} {j : Nat} : PP X (.Constant (.bool x) j pos) (fun _ => some (9, .bl x)) := ⟨_, pe_bl, SndP.con rfl⟩
theorem pp_non {j : Nat} : PP X (.Constant .none j pos) (fun _ => some (9, .non)) := ⟨_, pe_non, SndP.con rfl⟩
/-- a constant of the module -/
theorem pp_glob {x : Str} {d : D} {v : V} {u : Value} (hm : X.mg x = some u) (r : RelV v u) (s : d.sv = some v) (hg : Gl X x := by rfl) (hd : (x == ("__debug__" : Str)) = false := by decide) : PP X (.Name x pos) (fun _ => some (9, d)) := ⟨_, pe_glob hg hm r hd, SndP.con s⟩
/-! ### operators -/
abbrev p2 (g : List D → Option D) (pa pb : FP) : FP := pCall g (pCons pa (pCons pb pNil))
abbrev f2 (g : List D → Option D) (fa fb : FE) : FE := fCall g (fCons fa (fCons fb fNil))
abbrev p1 (g : List D → Option D) (pa : FP) : FP := pCall g (pCons pa pNil)
abbrev f1 (g : List D → Option D) (fa : FE) : FE := fCall g (fCons fa fNil)
theorem pp_bin {op : Operator} {r : R2} {g : List D → Option D} (ho : OpR X (binaryOp op) r) (c : CallP X.K (r2 r) g) (ha : PP X a pa) (hb : PP X b pb) : PP X (.BinOp a op b pos) (p2 g pa pb) :=
  let ⟨_, h1, s1⟩ := ha; let ⟨_, h2, s2⟩ := hb; ⟨_, pe_op ho h1 h2, SndP.call (r := r2 r) (.cons s1 (.cons s2 .nil)) c⟩
theorem pv_bin {op : Operator} {r : R2} {g : List D → Option D} (ho : OpR X (binaryOp op) r) (c : CallP X.K (r2 r) g) (ha : PV X W a fa) (hb : PV X W b fb) : PV X W (.BinOp a op b pos) (f2 g fa fb) :=
  let ⟨_, h1, s1⟩ := ha; let ⟨_, h2, s2⟩ := hb; ⟨_, pe_op ho h1 h2, SndE.call (r := r2 r) (.cons s1 (.cons s2 .nil)) c⟩
theorem pp_add (ha : PP X a pa) (hb : PP X b pb) : PP X (.BinOp a .Add b pos) (p2 gAdd pa pb) := pp_bin op_addA CallP.add ha hb
theorem pv_add (ha : PV X W a fa) (hb : PV X W b fb) : PV X W (.BinOp a .Add b pos) (f2 gAdd fa fb) := pv_bin op_addA CallP.add ha hb
theorem pp_sub (ha : PP X a pa) (hb : PP X b pb) : PP X (.BinOp a .Sub b pos) (p2 gSub pa pb) := pp_bin op_sub CallP.sub ha hb
theorem pv_sub (ha : PV X W a fa) (hb : PV X W b fb) : PV X W (.BinOp a .Sub b pos) (f2 gSub fa fb) := pv_bin op_sub CallP.sub ha hb
theorem pp_mul (ha : PP X a pa) (hb : PP X b pb) : PP X (.BinOp a .Mult b pos) (p2 gMul pa pb) := pp_bin op_mulW CallP.mul ha hb
theorem pv_mul (ha : PV X W a fa) (hb : PV X W b fb) : PV X W (.BinOp a .Mult b pos) (f2 gMul fa fb) := pv_bin op_mulW CallP.mul ha hb
theorem pp_mod (ha : PP X a pa) (hb : PP X b pb) : PP X (.BinOp a .Mod b pos) (p2 gMod pa pb) := pp_bin op_mod CallP.mod ha hb
theorem pv_mod (ha : PV X W a fa) (hb : PV X W b fb) : PV X W (.BinOp a .Mod b pos) (f2 gMod fa fb) := pv_bin op_mod CallP.mod ha hb
theorem pp_div (ha : PP X a pa) (hb : PP X b pb) : PP X (.BinOp a .FloorDiv b pos) (p2 gDiv pa pb) := pp_bin op_fdivW CallP.div ha hb
theorem pv_div (ha : PV X W a fa) (hb : PV X W b fb) : PV X W (.BinOp a .FloorDiv b pos) (f2 gDiv fa fb) := pv_bin op_fdivW CallP.div ha hb
theorem pp_pow (ha : PP X a pa) (hb : PP X b pb) : PP X (.BinOp a .Pow b pos) (p2 gPow pa pb) := pp_bin op_powW CallP.pow ha hb
theorem pv_pow (ha : PV X W a fa) (hb : PV X W b fb) : PV X W (.BinOp a .Pow b pos) (f2 gPow fa fb) := pv_bin op_powW CallP.pow ha hb
theorem pp_neg (ha : PP X a pa) : PP X (.UnaryOp .USub a pos) (p1 gNeg pa) := let ⟨_, h1, s1⟩ := ha; ⟨_, pe_un un_neg h1, SndP.call (r := r1 (rU fun i => .int (-i))) (.cons s1 .nil) CallP.neg⟩
theorem pv_neg (ha : PV X W a fa) : PV X W (.UnaryOp .USub a pos) (f1 gNeg fa) := let ⟨_, h1, s1⟩ := ha; ⟨_, pe_un un_neg h1, SndE.call (r := r1 (rU fun i => .int (-i))) (.cons s1 .nil) CallP.neg⟩
/-! ### comparisons: as values, as tests -/
theorem pp_cmp {op : CmpOp} {r : R2} {g : List D → Option D} (ho : OpR X (compareOp op) r) (c : CallP X.K (r2 r) g) (ha : PP X a pa) (hb : PP X b pb) (hm : behindInMarks op b = false) : PP X (.Compare a [op] [b] pos) (p2 g pa pb) :=
  let ⟨_, h1, s1⟩ := ha; let ⟨_, h2, s2⟩ := hb; ⟨_, pe_cmpR ho h1 h2 hm, SndP.call (r := r2 r) (.cons s1 (.cons s2 .nil)) c⟩
theorem pv_cmp {op : CmpOp} {r : R2} {g : List D → Option D} (ho : OpR X (compareOp op) r) (c : CallP X.K (r2 r) g) (ha : PV X W a fa) (hb : PV X W b fb) (hm : behindInMarks op b = false) : PV X W (.Compare a [op] [b] pos) (f2 g fa fb) :=
  let ⟨_, h1, s1⟩ := ha; let ⟨_, h2, s2⟩ := hb; ⟨_, pe_cmpR ho h1 h2 hm, SndE.call (r := r2 r) (.cons s1 (.cons s2 .nil)) c⟩
theorem tp_cmp {op : CmpOp} {r : R2} {g : List D → Option D} (ho : OpR X (compareOp op) r) (c : CallP X.K (r2 r) g) (ha : PP X a pa) (hb : PP X b pb) (hm : behindInMarks op b = false) : TV X W (.Compare a [op] [b] pos) (fTest (fP (p2 g pa pb))) :=
  let ⟨_, h1, s1⟩ := ha; let ⟨_, h2, s2⟩ := hb; ⟨_, pt_cmpR ho h1 h2 hm, SndT.test (SndP.e (SndP.call (r := r2 r) (.cons s1 (.cons s2 .nil)) c))⟩
theorem tv_cmp {op : CmpOp} {r : R2} {g : List D → Option D} (ho : OpR X (compareOp op) r) (c : CallP X.K (r2 r) g) (ha : PV X W a fa) (hb : PV X W b fb) (hm : behindInMarks op b = false) : TV X W (.Compare a [op] [b] pos) (fTest (f2 g fa fb)) :=
  let ⟨_, h1, s1⟩ := ha; let ⟨_, h2, s2⟩ := hb; ⟨_, pt_cmpR ho h1 h2 hm, SndT.test (SndE.call (r := r2 r) (.cons s1 (.cons s2 .nil)) c)⟩
/-! ### displays, subscripts -/
theorem pa_n : PAV X W [] fNil := ⟨_, pa_nil, .nil⟩
theorem pa_c (ha : PV X W a fa) (hr : PAV X W es fs) (hs : starEach (a :: es) X.env = (false, eval a X.env) :: starEach es X.env := by rfl) : PAV X W (a :: es) (fCons fa fs) :=
  let ⟨_, h1, s1⟩ := ha; let ⟨_, h2, s2⟩ := hr; ⟨_, pa_cons h1 h2 hs, .cons s1 s2⟩
theorem pv_lst (h : PAV X W es fs) : PV X W (.List es pos) (fCallS gLst fs) := let ⟨_, h1, s1⟩ := h; ⟨_, pe_lst h1, .lst s1⟩
theorem pv_tup {x1} (h : PAV X W es fs) : PV X W (.Tuple es x1 pos) (fCallS gTup fs) := let ⟨_, h1, s1⟩ := h; ⟨_, pe_tup h1, .tup s1⟩
theorem pp_ix (ha : PP X a pa) (hb : PP X b pb) (hs : PlainIx b := by exact fun _ _ => rfl) : PP X (.Subscript a b pos) (pIx pa pb) := let ⟨_, h1, s1⟩ := ha; let ⟨_, h2, s2⟩ := hb; ⟨_, pe_ix ix_seq h1 h2 hs, .ix s1 s2⟩
theorem pv_ix (ha : PV X W a fa) (hb : PV X W b fb) (hs : PlainIx b := by exact fun _ _ => rfl) : PV X W (.Subscript a b pos) (fCallS gIx (fCons fa (fCons fb fNil))) := let ⟨_, h1, s1⟩ := ha; let ⟨_, h2, s2⟩ := hb; ⟨_, pe_ix ix_seq h1 h2 hs, .ix s1 s2⟩
/-! ### and, or, not, by tests -/
theorem pv_one {op} (h : PV X W a fa) : PV X W (.BoolOp op [a] pos) fa := let ⟨_, h1, s1⟩ := h; ⟨_, pe_one h1, s1⟩
theorem pv_and (ha : PV X W a fa) (hb : PV X W (.BoolOp .And (b :: es) pos) fb) : PV X W (.BoolOp .And (a :: b :: es) pos) (fAndV fa fb) := let ⟨_, h1, s1⟩ := ha; let ⟨_, h2, s2⟩ := hb; ⟨_, pe_and h1 h2, .andV s1 s2⟩
theorem pv_or (ha : PV X W a fa) (hb : PV X W (.BoolOp .Or (b :: es) pos) fb) : PV X W (.BoolOp .Or (a :: b :: es) pos) (fOrV fa fb) := let ⟨_, h1, s1⟩ := ha; let ⟨_, h2, s2⟩ := hb; ⟨_, pe_or h1 h2, .orV s1 s2⟩
theorem pv_not (ha : PV X W a fa) : PV X W (.UnaryOp .Not a pos) (fNotV fa) := let ⟨_, h1, s1⟩ := ha; ⟨_, pe_not h1, .notV s1⟩
theorem pv_if {c : Expr} (hc : TV X W c ta) (ha : PV X W a fa) (hb : PV X W b fb) : PV X W (.IfExp c a b pos) (fIf ta fa fb) := let ⟨_, h0, s0⟩ := hc; let ⟨_, h1, s1⟩ := ha; let ⟨_, h2, s2⟩ := hb; ⟨_, pe_ifExp h0 h1 h2, .ifx s0 s1 s2⟩
/-- tests of rows (and, or): whatever the whole is -/
def TW (X : Cx) (W : WX) (e : Expr) (f : FT) : Prop := ∃ t, PW X e t ∧ SndT X.K W t f
theorem tw_and1 (h : TV X W a ta) : TW X W (.BoolOp .And [a] pos) ta := let ⟨_, h1, s1⟩ := h; ⟨_, pw_and1 h1, s1⟩
theorem tw_or1 (h : TV X W a ta) : TW X W (.BoolOp .Or [a] pos) ta := let ⟨_, h1, s1⟩ := h; ⟨_, pw_or1 h1, s1⟩
theorem tw_and (h : TV X W a ta) (h' : TW X W (.BoolOp .And (b :: es) pos) tb) : TW X W (.BoolOp .And (a :: b :: es) pos) (fAnd ta tb) := let ⟨_, h1, s1⟩ := h; let ⟨_, h2, s2⟩ := h'; ⟨_, pw_and h1 h2, .and s1 s2⟩
theorem tw_or (h : TV X W a ta) (h' : TW X W (.BoolOp .Or (b :: es) pos) tb) : TW X W (.BoolOp .Or (a :: b :: es) pos) (fOr ta tb) := let ⟨_, h1, s1⟩ := h; let ⟨_, h2, s2⟩ := h'; ⟨_, pw_or h1 h2, .or s1 s2⟩
theorem tv_w (h : TW X W a ta) : TV X W a ta := let ⟨_, h1, s1⟩ := h; ⟨_, h1.pt, s1⟩
theorem tv_not (h : TV X W a ta) : TV X W (.UnaryOp .Not a pos) (fNot ta) := let ⟨_, h1, s1⟩ := h; ⟨_, pt_not h1, .not s1⟩
theorem tv_tru (h : PV X W a fa) (he : ∀ whole, isTrue a X.env whole = (do let v ← whole; standAt a.pos; holding [v] (truthy v)) := by intro _; rfl) : TV X W a (fTru fa) := let ⟨_, h1, s1⟩ := h; ⟨_, pt_truth h1 he, .tru s1⟩
theorem tp_tru (h : PP X a pa) (he : ∀ whole, isTrue a X.env whole = (do let v ← whole; standAt a.pos; holding [v] (truthy v)) := by intro _; rfl) : TV X W a (fTruP pa) := let ⟨_, h1, s1⟩ := h; ⟨_, pt_truth h1 he, .truP s1⟩
/-! ### built-ins -/
def PQ (X : Cx) (es : List Expr) (f : FPA) : Prop := ∃ t, PA X es t ∧ SndPA X.K t f
theorem pq_nil : PQ X [] pNil := ⟨_, pa_nil, .nil⟩
theorem pq_c (ha : PP X a pa) (hr : PQ X es ps) (hs : starEach (a :: es) X.env = (false, eval a X.env) :: starEach es X.env := by rfl) : PQ X (a :: es) (pCons pa ps) :=
  let ⟨_, h1, s1⟩ := ha; let ⟨_, h2, s2⟩ := hr; ⟨_, pa_cons h1 h2 hs, .cons s1 s2⟩
theorem pp_bi {id : String} {x : Str} {r : List V → Hp → VK → Prop} {g : List D → Option D} (hc : CallR X (.builtin id) r) (c : CallP X.K r g) (hm : X.mg x = none) (hv : bootBuiltins x = some (.builtin id)) (ha : PQ X (e :: es) ps) (hg : Gl X x := by rfl) (hn : x ≠ "__name__" := by decide) (hdb : (x == ("__debug__" : Str)) = false := by decide)
    (he : starEach (e :: es) X.env = (false, eval e X.env) :: starEach es X.env := by rfl) (hpl : (backTo pos (starEach es X.env)).any (·.1) = false := by rfl) : PP X (.Call (.Name x pq) (e :: es) [] pos) (pCall g ps) :=
  let ⟨_, h1, s1⟩ := ha; ⟨_, pe_callB hc hg hm hv h1 hn hdb he hpl, SndP.call s1 c⟩
theorem pv_bi {id : String} {x : Str} {r : List V → Hp → VK → Prop} {g : List D → Option D} (hc : CallR X (.builtin id) r) (c : CallP X.K r g) (hm : X.mg x = none) (hv : bootBuiltins x = some (.builtin id)) (ha : PAV X W (e :: es) fs) (hg : Gl X x := by rfl) (hn : x ≠ "__name__" := by decide) (hdb : (x == ("__debug__" : Str)) = false := by decide)
    (he : starEach (e :: es) X.env = (false, eval e X.env) :: starEach es X.env := by rfl) (hpl : (backTo pos (starEach es X.env)).any (·.1) = false := by rfl) : PV X W (.Call (.Name x pq) (e :: es) [] pos) (fCall g fs) :=
  let ⟨_, h1, s1⟩ := ha; ⟨_, pe_callB hc hg hm hv h1 hn hdb he hpl, SndE.call s1 c⟩
theorem pp_ty {T : String} {x : Str} {r : List V → Hp → VK → Prop} {g : List D → Option D} (hc : CallR X (.type T) r) (c : CallP X.K r g) (hm : X.mg x = none) (hv : bootBuiltins x = some (.type T)) (ha : PQ X (e :: es) ps) (hg : Gl X x := by rfl) (hn : x ≠ "__name__" := by decide) (hdb : (x == ("__debug__" : Str)) = false := by decide)
    (he : starEach (e :: es) X.env = (false, eval e X.env) :: starEach es X.env := by rfl) (hpl : (backTo pos (starEach es X.env)).any (·.1) = false := by rfl) : PP X (.Call (.Name x pq) (e :: es) [] pos) (pCall g ps) :=
  let ⟨_, h1, s1⟩ := ha; ⟨_, pe_callTy hc hg hm hv h1 hn hdb he hpl, SndP.call s1 c⟩
theorem pv_ty {T : String} {x : Str} {r : List V → Hp → VK → Prop} {g : List D → Option D} (hc : CallR X (.type T) r) (c : CallP X.K r g) (hm : X.mg x = none) (hv : bootBuiltins x = some (.type T)) (ha : PAV X W (e :: es) fs) (hg : Gl X x := by rfl) (hn : x ≠ "__name__" := by decide) (hdb : (x == ("__debug__" : Str)) = false := by decide)
    (he : starEach (e :: es) X.env = (false, eval e X.env) :: starEach es X.env := by rfl) (hpl : (backTo pos (starEach es X.env)).any (·.1) = false := by rfl) : PV X W (.Call (.Name x pq) (e :: es) [] pos) (fCall g fs) :=
  let ⟨_, h1, s1⟩ := ha; ⟨_, pe_callTy hc hg hm hv h1 hn hdb he hpl, SndE.call s1 c⟩
/-! ### calls of defs -/
def PC (X : Cx) (W : WX) (ios : List (Option Nat)) (es : List Expr) (f : FC) : Prop := ∃ t, PA X es t ∧ SndC X.K W ios t f
theorem pc_n : PC X W [] [] cNil := ⟨_, pa_nil, .nil⟩
theorem pc_v {ios : List (Option Nat)} {fr : FC} (ha : PV X W a fa) (hr : PC X W ios es fr) (hs : starEach (a :: es) X.env = (false, eval a X.env) :: starEach es X.env := by rfl) : PC X W (none :: ios) (a :: es) (cVal fa fr) :=
  let ⟨_, h1, s1⟩ := ha; let ⟨_, h2, s2⟩ := hr; ⟨_, pa_cons h1 h2 hs, .val s1 s2⟩
theorem pc_io (i : Nat) {x : Str} {ios : List (Option Nat)} {fr : FC} (hr : PC X W ios es fr) (hN : X.N[i]? = some x := by rfl) (hv : Vis X.env.scope x := by first | exact Or.inl rfl | exact Or.inr (Or.inl rfl) | exact Or.inr (Or.inr rfl)) (hd : (x == ("__debug__" : Str)) = false := by decide)
    (hcd : (x == ("__classdict__" : Str)) = false := by decide) (hs : starEach (.Name x pos :: es) X.env = (false, eval (.Name x pos) X.env) :: starEach es X.env := by rfl) : PC X W (some i :: ios) (.Name x pos :: es) (cIo i fr) :=
  let ⟨_, h2, s2⟩ := hr; ⟨_, pa_cons (pe_var hN hv hd hcd) h2 hs, .io s2⟩
theorem pv_call {x : Str} {qs : List Str} {k : Nat} {m : Mir} {dds : List DK} {ios : List (Option Nat)} {f : FC} (h : Dok X.prog X.w X.K X.mg X.base CX0 x qs k m dds) (hr : Room k X.A) (ha : PC X W ios (e :: es) f) (hn : ios.length + dds.length = qs.length := by rfl) (hg : Gl X x := by rfl) (hdb : (x == ("__debug__" : Str)) = false := by decide)
    (he : starEach (e :: es) X.env = (false, eval e X.env) :: starEach es X.env := by rfl) (hpl : (backTo pos (starEach es X.env)).any (·.1) = false := by rfl) : PV X W (.Call (.Name x pq) (e :: es) [] pos) (fCallM false m ios dds (fCk ios.length f)) := by
  obtain ⟨_, h1, s1⟩ := ha
  obtain ⟨f, fd, ds, dvs, F, hm, hk, hb, hd, hdf⟩ := h.ex
  exact ⟨_, pe_call F hr hg hm hk hb hd pass0 h1 hdb he hpl, .callM s1 hn hdf⟩
theorem pv_callX {x : Str} {qs : List Str} {k : Nat} {m : Mir} {ios : List (Option Nat)} {f : FC} (h : Dok X.prog X.w X.K X.mg X.base (L2.CX X.prog X.w) x qs k m []) (hr : Room k X.A) (tk : Takes X W) (ha : PC X W ios (e :: es) f) (hn : ios.length = qs.length := by rfl) (hg : Gl X x := by rfl) (hdb : (x == ("__debug__" : Str)) = false := by decide)
    (he : starEach (e :: es) X.env = (false, eval e X.env) :: starEach es X.env := by rfl) (hpl : (backTo pos (starEach es X.env)).any (·.1) = false := by rfl) : PV X W (.Call (.Name x pq) (e :: es) [] pos) (fCallM true m ios [] (fCk ios.length f)) := by
  obtain ⟨_, h1, s1⟩ := ha
  obtain ⟨f, fd, ds, dvs, F, hm, hk, hb, hd, hdf⟩ := h.ex
  have e0 : dvs = [] := by
    have := congrArg List.length hdf
    simp at this
    exact List.length_eq_zero_iff.mp this.symm
  subst e0
  cases hd
  exact ⟨_, pe_callS F hr hg hm hk hb (fun σ => passAt tk σ) h1 hdb he hpl, .callMX s1 hn⟩
/-! ### methods that change a list -/
def LV (X : Cx) (j : Nat) (e : Expr) (l : FL) : Prop := ∃ t, PE X e t ∧ SndL X.K t j l
theorem lv_name (j : Nat) {x : Str} (hN : X.N[j]? = some x := by rfl) (hv : Vis X.env.scope x := by first | exact Or.inl rfl | exact Or.inr (Or.inl rfl) | exact Or.inr (Or.inr rfl)) (hd : (x == ("__debug__" : Str)) = false := by decide)
    (hcd : (x == ("__classdict__" : Str)) = false := by decide) : LV X j (.Name x pos) lName := ⟨_, pe_var hN hv hd hcd, SndL.name⟩
theorem lv_ix {j : Nat} {l : FL} (h : LV X j a l) (hb : PP X b pb) (hs : PlainIx b := by exact fun _ _ => rfl) : LV X j (.Subscript a b pos) (lIx l pb) := let ⟨_, h1, s1⟩ := h; let ⟨_, h2, s2⟩ := hb; ⟨_, pe_ix ix_seq h1 h2 hs, .ix s1 s2⟩
theorem pv_append {j : Nat} {l : FL} {name : Str} {apos : Pos} (ho : LV X j o l) (ha : PAV X W (e :: es) fs) (hn : name = "append" := by rfl) (hbase : attributeBase o name X.env (eval o X.env) = eval o X.env := by rfl)
    (hfew : ((backTo pos (starEach (e :: es) X.env)).all (fun x => !x.1) && (backToKw pos (keywordEach [] X.env)).all (fun x => x.1.isSome)
      && decide ((e :: es).length + ([] : List Keyword).length + (if ([] : List Keyword).isEmpty then 0 else 1) < 30)) = true := by rfl)
    (hline : (apos.endLine == pos.line) = true := by rfl) (hs : starEach (e :: es) X.env = (false, eval e X.env) :: starEach es X.env := by rfl) (hplain : (backTo pos (starEach es X.env)).any (·.1) = false := by rfl) :
    PV X W (.Call (.Attribute o name apos) (e :: es) [] pos) (fMeth j l opAppend fs) := by
  subst hn
  obtain ⟨_, h1, s1⟩ := ho
  obtain ⟨_, h2, s2⟩ := ha
  exact ⟨_, pe_bm PySem.F.plainAttrs_list PySem.F.slot_list_append PySem.F.type_list_append mt_append h1 h2 hbase hfew hline hs hplain, .meth s1 s2 MutS.append⟩
theorem pv_popAt {j : Nat} {l : FL} {name : Str} {apos : Pos} (ho : LV X j o l) (ha : PAV X W (e :: es) fs) (hn : name = "pop" := by rfl) (hbase : attributeBase o name X.env (eval o X.env) = eval o X.env := by rfl)
    (hfew : ((backTo pos (starEach (e :: es) X.env)).all (fun x => !x.1) && (backToKw pos (keywordEach [] X.env)).all (fun x => x.1.isSome)
      && decide ((e :: es).length + ([] : List Keyword).length + (if ([] : List Keyword).isEmpty then 0 else 1) < 30)) = true := by rfl)
    (hline : (apos.endLine == pos.line) = true := by rfl) (hs : starEach (e :: es) X.env = (false, eval e X.env) :: starEach es X.env := by rfl) (hplain : (backTo pos (starEach es X.env)).any (·.1) = false := by rfl) :
    PV X W (.Call (.Attribute o name apos) (e :: es) [] pos) (fMeth j l opPopAt fs) := by
  subst hn
  obtain ⟨_, h1, s1⟩ := ho
  obtain ⟨_, h2, s2⟩ := ha
  exact ⟨_, pe_bm PySem.F.plainAttrs_list PySem.F.slot_list_pop PySem.F.type_list_pop mt_popAt h1 h2 hbase hfew hline hs hplain, .meth s1 s2 MutS.popAt⟩
/-! ### targets -/
def GVs (X : Cx) (fx : List Nat) (es : List Expr) (f : FGs) : Prop := ∃ t, PGs X es t ∧ SndGs X.K fx t f
theorem gv_name (i : Nat) {x : Str} (hN : X.N.Nodup) (hi : X.N[i]? = some x := by rfl) (hx : Loc X.env.scope x := by first | exact Or.inl rfl | exact Or.inr rfl) (hf : X.fn x = true ∨ X.env.scope.names.lookup x = some .local := by first | exact .inl rfl | exact .inr rfl | assumption) : GV X fx (.Name x pos) (hName fx i) :=
  ⟨_, pg_name hN hi hx hf, .name⟩
theorem gv_n : GVs X fx [] hNil := ⟨_, pgs_nil, .nil⟩
theorem gv_c {f : FG} {fs : FGs} (h : GV X fx e f) (h' : GVs X fx es fs) (hs : (assignEach (e :: es) X.env).map (·.2) = assign e X.env :: (assignEach es X.env).map (·.2) := by rfl) : GVs X fx (e :: es) (hCons f fs) :=
  let ⟨_, h1, s1⟩ := h; let ⟨_, h2, s2⟩ := h'; ⟨_, pgs_cons h1 h2 hs, .cons s1 s2⟩
theorem gv_tup {k : Nat} {n : Nat} {fs : FGs} (hc : X.calm = true) (h : GVs X fx es fs) (hn : (assignEach es X.env).length = n := by rfl) (hst : (assignEach es X.env).findIdx? (·.1) = none := by rfl) : GV X fx (.Tuple es k pos) (hTup n fs) :=
  let ⟨_, h1, s1⟩ := h; ⟨_, pg_tup hc h1 hn hst, .tup s1⟩
theorem gv_sub {j : Nat} {l : FL} (ho : LV X j o l) (hi : PP X b pb)
    (ha : ∀ v, assign (.Subscript o b pos) X.env v = (do
      let ov ← holding [v] (eval o X.env)
      let iv ← holding [v, ov] (eval b X.env)
      standAt pos
      holding [v, ov, iv] (setItem ov iv v)
      release [v, ov, iv] []) := by intro _; rfl) : GV X fx (.Subscript o b pos) (hSub fx j l pb) :=
  let ⟨_, h1, s1⟩ := ho; let ⟨_, h2, s2⟩ := hi; ⟨_, pg_sub h1 h2 set_list ha, .sub s1 s2⟩
/-! ### statements -/
theorem ss_n : SVs X W fx [] gNx := ⟨_, pss_nil, .nil⟩
theorem ss_c (h : SV X W fx st g) (h' : SVs X W fx sts g') : SVs X W fx (st :: sts) (gSeq g g') := let ⟨_, h1, s1⟩ := h; let ⟨_, h2, s2⟩ := h'; ⟨_, pss_cons h1 h2, .seq s1 s2⟩
theorem ss_1 (h : SV X W fx st g) : SVs X W fx [st] g := let ⟨_, h1, s1⟩ := h; ⟨_, pss_one h1, s1⟩
theorem sv_ret (h : PV X W e fa) : SV X W fx (.Return (some e) pos) (gRet fa) := let ⟨_, h1, s1⟩ := h; ⟨_, ps_ret h1, .ret s1⟩
theorem sv_retN : SV X W fx (.Return none pos) gRetN := ⟨_, ps_retN, .retN⟩
theorem sv_exp (h : PV X W e fa) (hs : swapsWith e none pos.line X.env = pure false := by rfl) : SV X W fx (.Expr e pos) (gExp fa) := let ⟨_, h1, s1⟩ := h; ⟨_, ps_expr h1 hs, .exp s1⟩
theorem sv_pass : SV X W fx (.Pass pos) gNx := ⟨_, ps_pass, .nil⟩
theorem sv_brk : SV X W fx (.Break pos) gBk := ⟨_, ps_break, .brk⟩
theorem sv_cont : SV X W fx (.Continue pos) gCt := ⟨_, ps_continue, .cont⟩
theorem sv_if {c : Expr} (hc : TV X W c ta) (h : SVs X W fx sts g) (h' : SVs X W fx sts' g') : SV X W fx (.If c sts sts' pos) (gIfS ta g g') := let ⟨_, h0, s0⟩ := hc; let ⟨_, h1, s1⟩ := h; let ⟨_, h2, s2⟩ := h'; ⟨_, ps_if h0 h1 h2, .ifs s0 s1 s2⟩
theorem sv_set (i : Nat) {x : Str} (hN : X.N.Nodup) (h : PV X W e fa) (hi : X.N[i]? = some x := by rfl) (hx : Loc X.env.scope x := by first | exact Or.inl rfl | exact Or.inr rfl) (hs : swapsWith e (some (.Name x pos')) pos.line X.env = pure false := by rfl)
    (hf : X.fn x = true ∨ X.env.scope.names.lookup x = some .local := by first | exact .inl rfl | exact .inr rfl | assumption) : SV X W fx (.Assign [.Name x pos'] e pos) (gAsg fa (hName fx i)) := let ⟨_, h1, s1⟩ := h; ⟨_, ps_set hN hi hx h1 hs hf, .asg s1 .name⟩
theorem sv_asg {tg : Expr} {f : FG} (h : PV X W e fa) (hg : GV X fx tg f) (hs : swapsWithSole [tg] e pos.line X.env = pure false := by rfl) (hw : swappedStores [tg] e X.env = pure none := by rfl)
    (h1 : (assignEach [tg] X.env).map (·.2) = [assign tg X.env] := by rfl) : SV X W fx (.Assign [tg] e pos) (gAsg fa f) := let ⟨_, h1', s1⟩ := h; let ⟨_, h2, s2⟩ := hg; ⟨_, ps_asg h1' h2 hs hw h1, .asg s1 s2⟩
def IV (X : Cx) (W : WX) (tg iter : Expr) (f : FI) : Prop := ∃ t, PI X tg iter t ∧ SndI X.K W t f
theorem iv_lst {tg : Expr} (h : PV X W e fa) : IV X W tg e (fItL fa) := let ⟨_, h1, s1⟩ := h; ⟨_, pi_list h1, .lst s1⟩
theorem iv_tup {tg : Expr} (h : PV X W e fa) : IV X W tg e (fItT fa) := let ⟨_, h1, s1⟩ := h; ⟨_, pi_tup h1, .tup s1⟩
theorem iv_rng {tg : Expr} (hm : X.mg "range" = none) (h : PAV X W [a] fs) (hg : Gl X "range" := by rfl) (hs : starEach [a] X.env = [(false, eval a X.env)] := by rfl) : IV X W tg (.Call (.Name "range" pq) [a] [] pos) (fRng fs) :=
  let ⟨_, h1, s1⟩ := h; ⟨_, pi_range1 hg hm h1 hs, .rng s1⟩
theorem iv_rng2 {tg : Expr} (hm : X.mg "range" = none) (h : PAV X W [a, b] fs) (hg : Gl X "range" := by rfl) (hs : starEach [a, b] X.env = [(false, eval a X.env), (false, eval b X.env)] := by rfl) (hs2 : starEach [b] X.env = [(false, eval b X.env)] := by rfl) : IV X W tg (.Call (.Name "range" pq) [a, b] [] pos) (fRng2 fs) :=
  let ⟨_, h1, s1⟩ := h; ⟨_, pi_range2 hg hm h1 hs hs2, .rng2 s1⟩
theorem sv_for {tg iter : Expr} {f : FI} {h : FG} (hp : PassesOwn (model X.prog X.w) X.A X.env X.xe) (hc : X.calm = true) (hi : IV X W tg iter f) (hg : GV X fx tg h) (hb : SVs X W fx sts g)
    (hs : ∀ x, foldedSetIterable iter X.env x = pure x := by intro _; rfl) : SV X W fx (.For tg iter sts [] pos) (gFor f h g) := let ⟨_, h0, s0⟩ := hi; let ⟨_, h1, s1⟩ := hg; let ⟨_, h2, s2⟩ := hb; ⟨_, ps_for hp hc h0 h1 h2 hs, .for s0 s1 s2⟩
theorem sv_while {c : Expr} (hp : PassesOwn (model X.prog X.w) X.A X.env X.xe) (hc : TV X W c ta) (hb : SVs X W fx sts g) : SV X W fx (.While c sts [] pos) (gWhile ta g) := let ⟨_, h1, s1⟩ := hc; let ⟨_, h2, s2⟩ := hb; ⟨_, ps_while hp h1 h2, .while s1 s2⟩
end
end Rh
/-! Rh14: list comprehensions. -/
namespace Rh
open PySem L2
abbrev W0 : WX := fun _ _ _ _ => False
section
variable {K : PySem.W.Frag} {W : WX} {fx : List Nat} {Γ Γ' : Gm} {σ σ' : L2.St} {H Sh H' Sh' : Hp} {O O' O2 : List Addr}
def wipeG : Gm → List Nat → Gm
  | Γ, [] => Γ
  | Γ, v :: vs => (wipeG Γ vs).set v none
theorem Sl.forget : ∀ {Γ : Gm} {σ : L2.St} {O : List Addr} {i : Nat} {s : Option V}, Sl K Sh H Γ σ O → ∃ O', Sl K Sh H (Γ.set i none) (σ.set i s) O' ∧ O'.Sublist O
  | _, _, _, _, _, .nil => ⟨[], by simpa using .nil, .refl _⟩
  | _, _, _, 0, _, .emp t => ⟨_, .emp t, .refl _⟩
  | _, _, _, 0, _, .cons h t => ⟨_, .emp t, List.sublist_append_right _ _⟩
  | _, _, _, i + 1, s, .emp t => by
    obtain ⟨O', t', p⟩ := t.forget (i := i) (s := s)
    exact ⟨O', .emp t', p⟩
  | _, _, _, i + 1, s, .cons h t => by
    obtain ⟨O', t', p⟩ := t.forget (i := i) (s := s)
    exact ⟨_, .cons h t', p.append_left _⟩
theorem Sl.wipe : ∀ {vs : List Nat} {Γ : Gm} {σ : L2.St} {O : List Addr}, Sl K Sh H Γ σ O → ∃ O', Sl K Sh H (wipeG Γ vs) (L2.wipe σ vs) O' ∧ O'.Sublist O
  | [], _, _, O, t => ⟨O, t, .refl _⟩
  | v :: vs, _, _, O, t => by
    obtain ⟨O1, t1, s1⟩ := Sl.wipe (vs := vs) t
    obtain ⟨O2, t2, s2⟩ := t1.forget (i := v) (s := none)
    exact ⟨O2, t2, s2.trans s1⟩
theorem Rps.wipe {vs : List Nat} (r : Rps K Γ σ H Sh O) : ∃ O', Rps K (wipeG Γ vs) (L2.wipe σ vs) H Sh O' ∧ ∀ a ∈ O', a ∈ O := by
  obtain ⟨O', t, s⟩ := r.sl.wipe (vs := vs)
  exact ⟨O', ⟨t, r.nd.sublist s, fun a m => r.fr a (s.subset m), r.ex⟩, fun a m => s.subset m⟩
theorem Sl.unset {x : Option DK} : ∀ {Γ : Gm} {σ : L2.St} {O : List Addr} {i : Nat}, Sl K Sh H Γ (σ.set i none) O → Γ[i]? = some none → (∀ a, x = some a → ∃ w, σ[i]? = some (some w) ∧ Rp K Sh H a.1 a.2 w []) → Sl K Sh H (Γ.set i x) σ O
  | Γ, [], O, i, t, e, h => by
    rw [List.set_nil] at t
    cases t
    simp at e
  | s :: Γ, v :: σ, O, 0, t, e, h => by
    simp at e
    subst e
    cases t with
    | emp t =>
      cases x with
      | none => exact .emp t
      | some a =>
        obtain ⟨w, e1, r⟩ := h a rfl
        simp at e1
        subst e1
        exact .cons (f := []) r t
  | s :: Γ, v :: σ, O, i + 1, t, e, h => by
    have h' : ∀ a, x = some a → ∃ w, σ[i]? = some (some w) ∧ Rp K Sh H a.1 a.2 w [] := fun a ea => by simpa using h a ea
    rw [List.set_cons_succ] at t
    cases t with
    | emp t => exact .emp (t.unset (by simpa using e) h')
    | cons r t => exact .cons r (t.unset (by simpa using e) h')
  | [], v :: σ, O, i, t, e, h => by simp at e
/-- slots of the comprehension's own names as they were ahead -/
def restG (Γ1 : Gm) : Gm → List Nat → Gm
  | Γ, [] => Γ
  | Γ, v :: vs => restG Γ1 (Γ.set v (Γ1[v]?.join)) vs
def okSlot : Option (Option DK) → Bool
  | some (some (k, d)) => d.imm || k == 0
  | some none => true
  | none => false
theorem wipeG_length {Γ : Gm} : ∀ {vs : List Nat}, (wipeG Γ vs).length = Γ.length
  | [] => rfl
  | v :: vs => by unfold wipeG; rw [List.length_set, wipeG_length]
theorem wipeG_at {Γ : Gm} : ∀ {vs : List Nat} {v : Nat}, v ∈ vs → v < Γ.length → (wipeG Γ vs)[v]? = some none
  | w :: vs, v, m, l => by
    unfold wipeG
    by_cases z : w = v
    · subst z
      rw [List.getElem?_set_self (by rw [wipeG_length]; exact l)]
    · rw [List.getElem?_set_ne z]
      exact wipeG_at ((List.mem_cons.mp m).resolve_left fun q => z q.symm) l
theorem Sl.rest {Γ1 : Gm} : ∀ {vs : List Nat} {Γ : Gm} {σ : L2.St} {O : List Addr}, Sl K Sh H Γ (L2.wipe σ vs) O → vs.Nodup → (∀ v ∈ vs, Γ[v]? = some none) → (∀ v ∈ vs, ∀ a, Γ1[v]?.join = some a → ∃ w, σ[v]? = some (some w) ∧ Rp K Sh H a.1 a.2 w []) → Sl K Sh H (restG Γ1 Γ vs) σ O
  | [], Γ, σ, O, t, _, _, _ => t
  | v :: vs, Γ, σ, O, t, nd, e, h => by
    obtain ⟨n1, n2⟩ := List.nodup_cons.mp nd
    have t' : Sl K Sh H (Γ.set v (Γ1[v]?.join)) (L2.wipe σ vs) O := Sl.unset (σ := L2.wipe σ vs) t (e v List.mem_cons_self) fun a ea => by
      obtain ⟨w, e1, r⟩ := h v List.mem_cons_self a ea
      refine ⟨w, ?_, r⟩
      have keep : ∀ (us : List Nat), v ∉ us → (L2.wipe σ us)[v]? = σ[v]? := by
        intro us
        induction us with
        | nil => intro _; rfl
        | cons u us ih =>
          intro m
          unfold L2.wipe
          rw [List.getElem?_set_ne fun z => m (by rw [z]; exact List.mem_cons_self)]
          exact ih fun q => m (List.mem_cons_of_mem _ q)
      rw [keep vs n1]
      exact e1
    show Sl K Sh H (restG Γ1 (Γ.set v (Γ1[v]?.join)) vs) σ O
    exact Sl.rest (vs := vs) t' n2 (fun u m => by rw [List.getElem?_set_ne fun z => n1 (by rw [z]; exact m)]; exact e u (List.mem_cons_of_mem _ m)) fun u m a ea => h u (List.mem_cons_of_mem _ m) a ea
def compl (n : Nat) (vs : List Nat) : List Nat := (List.range n).filter fun i => !vs.contains i
theorem wipe_fx {vs : List Nat} {σ σ2 : L2.St} {n : Nat} (l : σ.length = n) (l2 : σ2.length = n) (f : Fx (compl n vs) (L2.wipe σ vs) σ2) : L2.wipe σ2 vs = L2.wipe σ vs := by
  have wl : ∀ (τ : L2.St), (L2.wipe τ vs).length = τ.length := fun τ => wipe_length τ vs
  have at_in : ∀ (τ : L2.St) (us : List Nat) (i : Nat), i ∈ us → i < τ.length → (L2.wipe τ us)[i]? = some none := by
    intro τ us
    induction us with
    | nil => intro i m; cases m
    | cons u us ih =>
      intro i m hi
      unfold L2.wipe
      by_cases z : u = i
      · subst z
        rw [List.getElem?_set_self (by rw [wipe_length]; exact hi)]
      · rw [List.getElem?_set_ne z]
        exact ih i ((List.mem_cons.mp m).resolve_left fun q => z q.symm) hi
  have at_out : ∀ (τ : L2.St) (us : List Nat) (i : Nat), i ∉ us → (L2.wipe τ us)[i]? = τ[i]? := by
    intro τ us
    induction us with
    | nil => intro i _; rfl
    | cons u us ih =>
      intro i m
      unfold L2.wipe
      rw [List.getElem?_set_ne fun z => m (by rw [z]; exact List.mem_cons_self)]
      exact ih i fun q => m (List.mem_cons_of_mem _ q)
  refine List.ext_getElem? fun i => ?_
  by_cases hi : i < n
  · by_cases m : i ∈ vs
    · rw [at_in σ2 vs i m (by omega), at_in σ vs i m (by omega)]
    · rw [at_out σ2 vs i m]
      refine f i ?_
      unfold compl
      rw [List.mem_filter]
      refine ⟨List.mem_range.mpr hi, ?_⟩
      simp [m]
  · rw [List.getElem?_eq_none (by rw [wl]; omega), List.getElem?_eq_none (by rw [wl]; omega)]
/-- the turns of a comprehension -/
def lcG (n : Nat) (vs : List Nat) (h : FG) (t : FT) (f : FE) : List D → Nat → List D → Gm → Option ((Nat × List D) × Gm)
  | [], k, acc, Γ => some ((k, acc), Γ)
  | d :: ds, k, acc, Γ => match h (0, d) (wipeG Γ vs) with
    | some Γ1 => if Γ1.length = n then match t Γ1 with
      | some (.ok true Γ2) => match f Γ2 with
        | some (.ok a Γ3) => if acc.length < LINE then lcG n vs h t f ds (if a.2.imm = true then k else min k a.1) (acc ++ [a.2]) Γ3 else none
        | _ => none
      | some (.ok false Γ2) => lcG n vs h t f ds k acc Γ2
      | _ => none else none
    | none => none
def fLc (n : Nat) (vs : List Nat) (fi : FI) (h : FG) (t : FT) (f : FE) : FE := fun Γ => R.bind (fi Γ) fun ds Γ1 =>
  if Γ1.length = n ∧ vs.Nodup ∧ vs.all (fun v => okSlot Γ1[v]?) = true then match lcG n vs h t f ds 8 [] Γ1 with
    | some ((k, acc), Γ2) => some (.ok (k + 1, .lst acc) (restG Γ1 (wipeG Γ2 vs) vs))
    | none => none else none
theorem Rps.grown {k : Nat} {acc : List D} {p : Addr} (r : Rps K (some (k + 1, .lst acc) :: Γ) (some (.ref p) :: σ) H Sh O) : ∃ vs fp g, O = (p :: fp) ++ g ∧ H p = some (.lst vs) ∧ RpA K Sh H k acc vs fp := by
  obtain ⟨f, g, rfl, h, r1, nd, fr⟩ := r.pop
  cases h with
  | own hp t => exact ⟨_, _, g, rfl, hp, t⟩
/-- one item more, of a list on the stack below the item -/
theorem Rps.addOne {k : Nat} {acc : List D} {p : Addr} {a : DK} {y : V} (r : Rps K (some a :: some (k + 1, .lst acc) :: Γ) (some y :: some (.ref p) :: σ) H Sh O) (hl : acc.length < LINE) :
    ∃ ac, H p = some (.lst ac) ∧ ac.length < sizeLine ∧ ∃ Sh' O', Evo H Sh O (upd H p (.lst (ac ++ [y]))) Sh' O' ∧ Rps K (some ((if a.2.imm = true then k else min k a.1) + 1, .lst (acc ++ [a.2])) :: Γ) (some (.ref p) :: σ) (upd H p (.lst (ac ++ [y]))) Sh' O' := by
  obtain ⟨m, em⟩ : ∃ m, m = (if a.2.imm = true then k else min k a.1) := ⟨_, rfl⟩
  have hm : m ≤ k := by rw [em]; split <;> omega
  have ha : a.2.imm = true ∨ m ≤ a.1 := by
    rw [em]
    split
    · exact .inl (by assumption)
    · exact .inr (by omega)
  rw [← em]
  -- the list first
  obtain ⟨O1, r1, p1⟩ := r.mid
  obtain ⟨Sh2, O2, e2, r2⟩ := r1.less (j := m + 1) (by omega)
  obtain ⟨O3, r3, p3⟩ := r2.mid
  obtain ⟨Sh4, O4, e4, r4⟩ := r3.atLeast ha
  obtain ⟨f, g, rfl, h, r5, nd, fr⟩ := r4.pop
  obtain ⟨fw, g', rfl, hw, r6, nd6, fr6⟩ := r5.pop
  cases hw with
  | @own k' p' ac ds' fp hp t =>
    have nd7 : ((p :: fp) ++ (f ++ g')).Nodup := (List.perm_append_comm_assoc f (p :: fp) g').nodup_iff.mp nd
    have fr7 : ∀ x ∈ (p :: fp) ++ (f ++ g'), Sh4 x = none := fun x mx => (List.mem_append.mp mx).elim (fr6 x) fun mx => (List.mem_append.mp mx).elim (fr x) (r6.fr x)
    obtain ⟨O7, r7, e7⟩ := mutate (j := 0) (b := (m + 1, .lst acc)) (w := .ref p) (fa := f) (Γ := none :: Γ) (σ := some (.ref p) :: σ) ⟨.emp r6.sl, r6.nd, r6.fr, r6.ex⟩ (Hole.refl (.own hp t)) nd7 fr7 rfl rfl
      (t.append (.cons h .nil)) (kr := 9) (dr := .non) (vr := .non) (f2 := []) .non (.refl _) (by simp)
    obtain ⟨O8, s8, r8⟩ := r7.tail
    refine ⟨ac, hp, line_lt (t.length ▸ hl), Sh4, O8, ?_, r8⟩
    have eA : Evo H Sh O H Sh4 (f ++ ((p :: fp) ++ g')) := (((Evo.of_perm p1 r.ex).trans e2).trans (Evo.of_perm p3 r2.ex)).trans e4
    exact (eA.trans (e7.left fun x mx => (List.perm_append_comm_assoc f (p :: fp) g').mem_iff.mpr mx)).sub s8
theorem SndE.lc {wi : TI} {g : TG} {tt : TT} {te : TE} {vs : List Nat} {n : Nat} {fi : FI} {h : FG} {t : FT} {fe : FE} (hi : SndI K W wi fi) (hg : SndG K (compl n vs) g h) (ht : SndT K W0 tt t) (he : SndE K W0 te fe) :
    SndE K W (tLc wi g tt te vs) (fLc n vs fi h t fe) := by
  intro Γ r e σ H Sh O G Q q
  unfold fLc R.bind at e
  cases ea : fi Γ with
  | none => rw [ea] at e; cases e
  | some r1 =>
    rw [ea] at e
    cases r1 with
    | ex x Γ1 => cases e; exact hi Γ _ ea σ H Sh O G _ q
    | ok ds Γ1 =>
      refine hi Γ _ ea σ H Sh O G _ fun J H1 Sh1 O1 e1 G1 it => ?_
      dsimp only at e
      split at e
      · rename_i hc
        obtain ⟨hn, nd, hok⟩ := hc
        split at e
        · rename_i k acc Γ2 el
          cases e
          intro D hD
          have ln : σ.length = n := by rw [G1.length]; exact hn
          have G2 := G1.alloc (k := 9) (d := .lst []) (o := .lst []) (fp := []) hD G1.nd (fun _ m => nomatch m) (fun _ m => nomatch m) (.own upd_same .nil)
          obtain ⟨G2, e2⟩ := G2
          refine ⟨fun i m H' => ∃ Γi σi k0 acc0 Sh' O', m = ds.length - i ∧ i ≤ ds.length ∧ lcG n vs h t fe (ds.drop i) k0 acc0 Γi = some ((k, acc), Γ2) ∧ L2.wipe σi vs = L2.wipe σ vs ∧ σi.length = n ∧ Evo H1 Sh1 O1 H' Sh' O' ∧ Rps K (some (k0 + 1, .lst acc0) :: Γi) (some (.ref D) :: σi) H' Sh' O',
            ⟨ds.length, Γ1, σ, 8, [], Sh1, _, by simp, Nat.zero_le _, by simpa using el, rfl, ln, e2, G2⟩, ?_⟩
          rintro i m H2 ⟨Γi, σi, k0, acc0, Sh2, O2, rfl, hil, er, wi', li, ev2, G3⟩
          obtain ⟨hstop, hgo⟩ := it i H2 Sh2 ev2.sh G3.ex
          obtain ⟨f3, g3, rfl, h3, G4, nd3, fr3⟩ := G3.pop
          by_cases hlt : i < ds.length
          · have hd : ds[i]? = some ds[i] := List.getElem?_eq_getElem hlt
            obtain ⟨go, yld⟩ := hgo _ hd
            refine .inr ⟨go, fun H' => ∃ m', m' < ds.length - i ∧ ∃ Γi σi k0 acc0 Sh' O', m' = ds.length - (i + 1) ∧ i + 1 ≤ ds.length ∧ lcG n vs h t fe (ds.drop (i + 1)) k0 acc0 Γi = some ((k, acc), Γ2) ∧ L2.wipe σi vs = L2.wipe σ vs ∧ σi.length = n ∧ Evo H1 Sh1 O1 H' Sh' O' ∧ Rps K (some (k0 + 1, .lst acc0) :: Γi) (some (.ref D) :: σi) H' Sh' O', fun H' n => n, fun x H3 y => ?_⟩
            obtain ⟨Sh3, gr, hx⟩ := yld x H3 y
            rw [List.drop_eq_getElem_cons hlt] at er
            unfold lcG at er
            split at er
            · rename_i Γ5 eh
              obtain ⟨g4, G5, s5⟩ := (gr.rps G4).wipe (vs := vs)
              rw [wi'] at G5
              have G6 := G5.push0 hx
              refine hg _ _ Γ5 eh x (L2.wipe σ vs) H3 Sh3 g4 G6 _ fun σ6 H6 Sh6 O6 f6 ev6 G7 => ?_
              split at er
              · rename_i hn5
                have l6 : σ6.length = n := G7.length.trans hn5
                have w6 := wipe_fx ln l6 f6
                have evB : Evo H2 Sh2 g3 H6 Sh6 O6 := (gr.evo.sub s5).trans ev6
                split at er
                · rename_i Γ6 et
                  refine ⟨w6, ht Γ5 _ et σ6 H6 Sh6 O6 G7 _ fun H7 Sh7 O7 ev7 G8 => ?_⟩
                  dsimp only
                  rw [if_pos rfl]
                  split at er
                  · rename_i a Γ7 ef
                    split at er
                    · rename_i hl
                      refine he Γ6 _ ef σ6 H7 Sh7 O7 G8 _ fun y H8 Sh8 O8 ev8 G9 => ?_
                      obtain ⟨G10, ev10⟩ := Rps.over h3 G4 nd3 fr3 ((evB.trans ev7).trans ev8) G9
                      obtain ⟨O11, G11, p11⟩ := G10.mid
                      obtain ⟨ac, hac, hlen, Sh12, O12, ev12, G12⟩ := G11.addOne hl
                      exact ⟨ac, hac, hlen, _, by omega, Γ7, σ6, _, _, Sh12, O12, rfl, hlt, er, w6, l6, (ev2.trans (ev10.trans (Evo.of_perm p11 G10.ex))).trans ev12, G12⟩
                    · cases er
                  · cases er
                · rename_i Γ6 et
                  refine ⟨w6, ht Γ5 _ et σ6 H6 Sh6 O6 G7 _ fun H7 Sh7 O7 ev7 G8 => ?_⟩
                  dsimp only
                  rw [if_neg Bool.false_ne_true]
                  obtain ⟨G10, ev10⟩ := Rps.over h3 G4 nd3 fr3 (evB.trans ev7) G8
                  exact ⟨_, by omega, Γ6, σ6, _, _, Sh7, _, rfl, hlt, er, w6, l6, ev2.trans ev10, G10⟩
                · cases er
              · cases er
            · cases er
          · have hle : ds.length ≤ i := Nat.le_of_not_lt hlt
            rw [List.drop_eq_nil_of_le hle] at er
            cases er
            refine .inl ⟨hstop hle, ?_⟩
            obtain ⟨O5, G5, s5⟩ := G4.wipe (vs := vs)
            rw [wi'] at G5
            have slots : Sl K Sh2 H2 (restG Γ1 (wipeG Γ2 vs) vs) σ O5 := Sl.rest G5.sl nd (fun v m => wipeG_at m ?_) fun v m a ea => ?_
            · have eR : Evo H2 Sh2 g3 H2 Sh2 O5 := Evo.refl.sub s5
              obtain ⟨G6, e6⟩ := Rps.over h3 G4 nd3 fr3 eR ⟨slots, G5.nd, G5.fr, G5.ex⟩
              exact q (.ref D) H2 Sh2 _ ((e1.trans ev2).trans e6) G6
            · have l2 : Γ2.length = n := by rw [← G4.length]; exact li
              have : v < Γ1.length := by
                have o := List.all_eq_true.mp hok v m
                cases z : Γ1[v]? with
                | none => rw [z] at o; cases o
                | some s => exact (List.getElem?_eq_some_iff.mp z).1
              omega
            · have o := List.all_eq_true.mp hok v m
              cases z : Γ1[v]? with
              | none => rw [z] at ea; cases ea
              | some s =>
                rw [z] at ea o
                have es : s = some a := ea
                subst es
                obtain ⟨w, f, g, ew, hr, _, _⟩ := G1.sl.get z
                refine ⟨w, ew, ?_⟩
                obtain ⟨k', d'⟩ := a
                simp only [okSlot, Bool.or_eq_true] at o
                rcases o with o | o
                · obtain ⟨_, rj⟩ := hr.immut o
                  exact (rj k' H2).mono ev2.sh fun _ m => nomatch m
                · have k0 : k' = 0 := by simpa using o
                  subst k0
                  obtain rfl := hr.zero
                  exact hr.mono ev2.sh fun _ m => nomatch m
        · cases e
      · cases e
def fYes : FT := fun Γ => some (.ok true Γ)
theorem SndT.yes : SndT K W tYes fYes := by
  intro Γ r e σ H Sh O G Q q
  cases e
  exact q H Sh O Evo.refl G
end
section
variable {X : Cx} {W : WX} {fx : List Nat} {elt tg iter : Expr} {ifs : List Expr} {scope : Scope} {own : List (Str × Nat)} {pos spos py : Pos} {fi : FI} {h : FG} {t : FT} {f : FE} {n : Nat}
/-- the contexts of a comprehension's block -/
abbrev Blk (X : Cx) (scope : Scope) (φ : Cx → Prop) : Prop := ∀ (s : Shared) (H : Hp) (C : Addr) (cl : List (Str × Addr)) (fp : List Addr), φ (X.blk s H scope (compEnvC scope cl C X.env) fp)
theorem uni_g (k : Blk X scope fun Y => GV Y fx tg h) : ∃ g, (Blk X scope fun Y => PG Y tg g) ∧ SndG X.K fx g h := by
  refine ⟨fun v σ H Q => ∀ (s : Shared) (H0 : Hp) (C : Addr) (cl : List (Str × Addr)) (fp : List Addr), ∃ g', PG (X.blk s H0 scope (compEnvC scope cl C X.env) fp) tg g' ∧ g' v σ H Q, fun s H C cl fp => ⟨fun pins s' σ H' v u Q I r q => ?_⟩, ?_⟩
  · obtain ⟨g', p, q'⟩ := q s H C cl fp
    exact p.run pins s' σ H' v u Q I r q'
  · intro a Γ Γ' e v σ H Sh O G Q q s H0 C cl fp
    obtain ⟨g', p, sd⟩ := k s H0 C cl fp
    exact ⟨g', p, sd a Γ Γ' e v σ H Sh O G Q q⟩
theorem uni_e (k : Blk X scope fun Y => PV Y W0 elt f) : ∃ te, (Blk X scope fun Y => PE Y elt te) ∧ SndE X.K W0 te f := by
  refine ⟨fun σ H Q => ∀ (s : Shared) (H0 : Hp) (C : Addr) (cl : List (Str × Addr)) (fp : List Addr), ∃ g', PE (X.blk s H0 scope (compEnvC scope cl C X.env) fp) elt g' ∧ g' σ H Q, fun s H C cl fp => ⟨fun pins s' σ H' Q I q => ?_⟩, ?_⟩
  · obtain ⟨g', p, q'⟩ := q s H C cl fp
    exact p.run pins s' σ H' Q I q'
  · intro Γ r e σ H Sh O G Q q s H0 C cl fp
    obtain ⟨g', p, sd⟩ := k s H0 C cl fp
    exact ⟨g', p, sd Γ r e σ H Sh O G Q q⟩
def TVs (Y : Cx) (W : WX) (ifs : List Expr) (f : FT) : Prop := ∃ t, PTs Y ifs t ∧ SndT Y.K W t f
theorem ts_n : TVs X W [] fYes := ⟨_, pts_nil, .yes⟩
theorem ts_1 {c : Expr} (h : TV X W c t) : TVs X W [c] t := let ⟨_, h1, s1⟩ := h; ⟨_, pts_one h1, s1⟩
theorem uni_t (k : Blk X scope fun Y => TVs Y W0 ifs t) : ∃ te, (Blk X scope fun Y => PTs Y ifs te) ∧ SndT X.K W0 te t := by
  refine ⟨fun σ H Q => ∀ (s : Shared) (H0 : Hp) (C : Addr) (cl : List (Str × Addr)) (fp : List Addr), ∃ g', PTs (X.blk s H0 scope (compEnvC scope cl C X.env) fp) ifs g' ∧ g' σ H Q, fun s H C cl fp => ⟨fun pins s' σ H' Q I q => ?_⟩, ?_⟩
  · obtain ⟨g', p, q'⟩ := q s H C cl fp
    exact p.run pins s' σ H' Q I q'
  · intro Γ r e σ H Sh O G Q q s H0 C cl fp
    obtain ⟨g', p, sd⟩ := k s H0 C cl fp
    exact ⟨g', p, sd Γ r e σ H Sh O G Q q⟩
theorem pv_lc (N : List Str) (sc : Scope) (own : List (Str × Nat)) (hc : X.calm = true) (hN : X.N.Nodup) (hi : IV X W tg iter fi) (ok : blkC N sc scope own = true) (hg : Blk X scope fun Y => GV Y (compl n (own.map (·.2))) tg h) (ht : Blk X scope fun Y => TVs Y W0 ifs t) (he : Blk X scope fun Y => PV Y W0 elt f)
    (hs : ∀ x, foldedSetIterable iter X.env x = pure x := by intro _; rfl) (e1 : X.N = N := by rfl) (e2 : X.env.scope = sc := by rfl) : PV X W (.ListComp elt [⟨tg, iter, ifs, 0⟩] scope pos) (fLc n (own.map (·.2)) fi h t f) := by
  obtain ⟨_, h1, s1⟩ := hi
  obtain ⟨_, h2, s2⟩ := uni_g hg
  obtain ⟨_, h3, s3⟩ := uni_t ht
  obtain ⟨_, h4, s4⟩ := uni_e he
  subst e1 e2
  exact ⟨_, pe_lc hc hN h1 (blkOk_by ok) h2 h3 h4 hs, .lc s1 s2 s3 s4⟩
theorem sv_setLc (i : Nat) {y : Str} (N : List Str) (sc : Scope) (own : List (Str × Nat)) (hc : X.calm = true) (hN : X.N.Nodup) (hi : IV X W tg iter fi) (ok : blkC N sc scope own = true) (hg : Blk X scope fun Y => GV Y (compl n (own.map (·.2))) tg h) (ht : Blk X scope fun Y => TVs Y W0 ifs t) (he : Blk X scope fun Y => PV Y W0 elt f)
    (hsw : swapsWith (.ListComp elt [⟨tg, iter, ifs, 0⟩] scope pos) (some (.Name y py)) spos.line X.env = pure true) (hy : X.N[i]? = some y := by rfl) (hyl : X.env.scope.names.lookup y = some .local := by rfl)
    (hs : ∀ x, foldedSetIterable iter X.env x = pure x := by intro _; rfl) (e1 : X.N = N := by rfl) (e2 : X.env.scope = sc := by rfl) : SV X W fx (.Assign [.Name y py] (.ListComp elt [⟨tg, iter, ifs, 0⟩] scope pos) spos) (gAsg (fLc n (own.map (·.2)) fi h t f) (hName fx i)) := by
  obtain ⟨_, h1, s1⟩ := hi
  obtain ⟨_, h2, s2⟩ := uni_g hg
  obtain ⟨_, h3, s3⟩ := uni_t ht
  obtain ⟨_, h4, s4⟩ := uni_e he
  subst e1 e2
  exact ⟨_, ps_setLc hc hN hy hyl hsw h1 (blkOk_by ok) h2 h3 h4 hs, .asg (.lc s1 s2 s3 s4) .name⟩
end
end Rh
/-! Rh15: two names at once, chains of comparisons. -/
namespace Rh
open PySem L2
section
variable {K : PySem.W.Frag} {W : WX} {fx : List Nat} {Γ Γ' : Gm} {σ σ' : L2.St} {H Sh H' Sh' : Hp} {O O' O2 : List Addr}
def gPar (fx : List Nat) (i j : Nat) (f : FA) : FS := fun Γ => match f Γ with
  | some (.ok [a, b] Γ1) => if i < Γ1.length ∧ j < Γ1.length ∧ i ∉ fx ∧ j ∉ fx then some (.nx ((Γ1.set i (some a)).set j (some b))) else none
  | some (.ex x Γ1) => some (.ex x Γ1)
  | _ => none
theorem SndS.par {i j : Nat} {ta : TA} {f : FA} (h : SndA K W ta f) : SndS K W fx (tPar i j ta) (gPar fx i j f) := by
  intro Γ r e σ H Sh O G E q
  unfold gPar at e
  split at e
  · rename_i a b Γ1 ea
    split at e
    · rename_i hc
      cases e
      refine h Γ _ ea σ H Sh O G _ fun vs H1 Sh1 O1 l e1 G1 => ?_
      match vs, l with
      | [v, w], _ =>
        refine ⟨v, w, rfl, ?_⟩
        have G1' : Rps K (some a :: some b :: Γ1) (some v :: some w :: σ) H1 Sh1 O1 := G1
        obtain ⟨O2, G2, p2⟩ := G1'.mid
        obtain ⟨f, g, rfl, hb, G3, nd, fr⟩ := G2.pop (k := b.1) (d := b.2)
        obtain ⟨O4, G4, s4⟩ := G3.set (i := i) hc.1
        have nd4 : (f ++ O4).Nodup := by
          rw [List.nodup_append]
          exact ⟨(nodup_app nd).1, G4.nd, fun x mx y my z => (nodup_app nd).2.2 x mx (z ▸ s4 y my)⟩
        have G5 := G4.push hb nd4 fr
        obtain ⟨O6, G6, s6⟩ := G5.set (i := j) (by simpa using hc.2.1)
        refine q _ H1 Sh1 O6 (fun n m => ?_) (e1.sub fun x m => p2.mem_iff.mp ((List.mem_append.mp (s6 x m)).elim (List.mem_append_left _) fun m => List.mem_append_right _ (s4 x m))) G6
        rw [List.getElem?_set_ne fun z : j = n => hc.2.2.2 (by rw [z]; exact m), List.getElem?_set_ne fun z : i = n => hc.2.2.1 (by rw [z]; exact m)]
    · cases e
  · rename_i x Γ1 ea
    cases e
    exact h Γ _ ea σ H Sh O G _ fun c od H1 Sh1 O1 e1 G1 z => q c od σ H1 Sh1 O1 Fx.refl e1 G1 z
  · cases e
end
section
variable {X : Cx} {W : WX} {fx : List Nat} {a b c : Expr} {pos px py pt pt2 : Pos} {kt k2 : Nat} {fa : FA} {pa pb pc : FP}
theorem sv_par (i j : Nat) {x y : Str} (hc : X.calm = true) (hN : X.N.Nodup) (ha : PAV X W [a, b] fa) (hi : X.N[i]? = some x := by rfl) (hj : X.N[j]? = some y := by rfl) (hij : i ≠ j := by decide)
    (hx : X.env.scope.names.lookup x = some .local := by rfl) (hy : X.env.scope.names.lookup y = some .local := by rfl)
    (hw : swappedStores [.Tuple [.Name x px, .Name y py] kt pt] (.Tuple [a, b] k2 pt2) X.env = pure (some [x, y]) := by rfl)
    (hs : swapsWithSole [.Tuple [.Name x px, .Name y py] kt pt] (.Tuple [a, b] k2 pt2) pos.line X.env = pure false := by rfl) :
    SV X W fx (.Assign [.Tuple [.Name x px, .Name y py] kt pt] (.Tuple [a, b] k2 pt2) pos) (gPar fx i j fa) := let ⟨_, h1, s1⟩ := ha; ⟨_, ps_par hc hN hi hj hij hx hy h1 hw hs, .par s1⟩
end
end Rh
/-! Rh16: isinstance, lists put together, cut, copied, summed. -/
namespace Rh
open PySem L2
section
variable {K : PySem.W.Frag} {W : WX} {fx : List Nat} {Γ Γ' : Gm} {σ σ' : L2.St} {H Sh H' Sh' : Hp} {O O' O2 : List Addr}
/-! ### isinstance of built-in types -/
def tyName : D → Option String
  | .non => some "NoneType" | .bl _ => some "bool" | .int _ => some "int" | .str _ => some "str"
  | .tup _ => some "tuple" | .lst _ => some "list" | .dct _ _ => some "dict"
  | _ => none
theorem Rp.tyx {k : Nat} {d : D} {v : V} {fp : List Addr} {n : String} (ex : Ex Sh H) (h : Rp K Sh H k d v fp) (e : tyName d = some n) : TyX K H v (.type n) := by
  cases h with
  | non => cases e; exact .base .non
  | bl => cases e; exact .base (.bl _)
  | int => cases e; exact .base (.int _)
  | str => cases e; exact .base (.str _)
  | ref => cases e
  | ty => cases e
  | tup h t =>
    cases e
    rcases ex.t h with (h | ⟨o, h⟩) | ⟨o, its, m, h1, h2, _⟩
    · exact .base (.tup h)
    · exact .fTuple h
    · exact .kTuple h1 h2
  | fz h t =>
    cases e
    rcases ex.l h with (h | ⟨o, h⟩) | ⟨o, its, m, h1, h2, _⟩
    · exact .base (.lst h)
    · exact .base (.frz h)
    · exact .kList h1 h2
  | own h t => cases e; exact .base (.lst h)
  | dfz h l t => cases e; exact .base (.dK (ex _ _ h))
  | down h l t => cases e; exact .base (.dK h)
  | ifz h l t => cases e
  | iown h l t => cases e
def tysOf : List D → Option (List String)
  | [] => some []
  | .ty m :: r => (tysOf r).map (m :: ·)
  | _ :: _ => none
def isiL (n : String) : List String → Option Bool
  | [] => some false
  | m :: r => match kitB n m with
    | some true => some true
    | some false => isiL n r
    | none => none
def isiAny (n : String) (cs : List D) : Option Bool := match tysOf cs with
  | some ms => isiL n ms
  | none => none
def gIsi : List D → Option D
  | [x, .ty m] => match tyName x with
    | some n => (kitB n m).map .bl
    | none => none
  | [x, .tup cs] => match tyName x with
    | some n => (isiAny n cs).map .bl
    | none => none
  | _ => none
/-- a tuple of classes that is read -/
def rIsiS (K : PySem.W.Frag) : List V → Hp → VK → Prop := fun xs H Q => ∃ (x : V) (tp : Addr) (cs : List V) (t : Value) (us : List Value) (b : Bool), xs = [x, .ref tp] ∧ SqT K H tp cs ∧ Paired ClsV cs us ∧ TyX K H x t ∧ PySem.W.kitAny K t us = some b ∧ Q (.bl b) H
theorem call_isiS {X : Cx} : CallR X (.builtin "isinstance") (rIsiS X.K) := by
  intro pins s σ H xs us Q I r h
  obtain ⟨x, tp, cs, t, ws, b, rfl, hT, k, ty, e, q⟩ := h
  obtain ⟨u1, u2, rfl, r1, r2⟩ := vals2 r
  cases (show u2 = Value.ref tp from r2)
  obtain ⟨P, Z, p, hx⟩ := kit_of I r1 ty
  obtain ⟨its, rv, ⟨o, h1, h2, n, h3⟩, _⟩ := I.tuple hT
  have e3 := ClsV.all k rv
  subst e3
  obtain ⟨oc, od, dt, sl⟩ := o
  simp only at h2 h3
  subst h2 h3
  exact PySem.W.kia_tup Z I.kIn p h1 e hx fun tk => ⟨.bl b, H, I.tok tk, rfl, q⟩
def rIsiA (K : PySem.W.Frag) : List V → Hp → VK → Prop := fun xs H Q => rIsi K xs H Q ∨ rIsiS K xs H Q
theorem call_isiA {X : Cx} : CallR X (.builtin "isinstance") (rIsiA X.K) := call_isi.or call_isiS
theorem isiL_ok {n : String} : ∀ {ms : List String} {b : Bool}, isiL n ms = some b → PySem.W.kitAny K (.type n) (ms.map Value.type) = some b
  | [], b, e => by cases e; exact kitAny_nil
  | m :: r, b, e => by
    unfold isiL at e
    split at e
    · rename_i q
      cases e
      exact kitAny_cons (kit_ty q) nofun fun _ => rfl
    · rename_i q
      exact kitAny_cons (kit_ty q) (fun _ => isiL_ok e) nofun
    · cases e
theorem tysOf_ok : ∀ {cs : List D} {ms : List String} {k : Nat} {vs : List V} {fp : List Addr}, tysOf cs = some ms → RpA K Sh H k cs vs fp → Paired ClsV vs (ms.map Value.type)
  | [], ms, k, vs, fp, e, h => by
    cases e
    cases h
    exact .nil
  | d :: r, ms, k, vs, fp, e, h => by
    cases d with
    | ty m =>
      simp only [tysOf, Option.map_eq_some_iff] at e
      obtain ⟨ms', e', rfl⟩ := e
      cases h with
      | cons h t =>
        cases h
        exact .cons (.ty m) (tysOf_ok e' t)
    | _ => cases e
theorem CallP.isi : CallP K (rIsiA K) gIsi := by
  intro ds c e vs H Sh x q
  unfold gIsi at e
  split at e
  · obtain ⟨v, w, _, _, _, _, rfl, h1, h2⟩ := q.two
    cases h2
    split at e
    · rename_i n en
      rw [Option.map_eq_some_iff] at e
      obtain ⟨b, eb, rfl⟩ := e
      exact ⟨_, rfl, fun Q z => .inl ⟨v, _, _, _, b, rfl, .ty _, h1.tyx x en, kit_ty eb, z⟩⟩
    · cases e
  · obtain ⟨v, w, _, _, _, _, rfl, h1, h2⟩ := q.two
    split at e
    · rename_i n en
      rw [Option.map_eq_some_iff] at e
      obtain ⟨b, eb, rfl⟩ := e
      unfold isiAny at eb
      split at eb
      · rename_i ms em
        cases h2 with
        | tup ht t => exact ⟨_, rfl, fun Q z => .inr ⟨v, _, _, _, _, b, rfl, x.t ht, tysOf_ok em t, h1.tyx x en, isiL_ok eb, z⟩⟩
      · cases eb
    · cases e
  · cases e
/-! ### a list's items -/
theorem RpA.all0 {k : Nat} {ds : List D} {vs : List V} {fp : List Addr} (h : RpA K Sh H k ds vs fp) (i : immA ds = true) : fp = [] ∧ ∀ j, RpA K Sh H j ds vs [] := ⟨(h.immut i).1, fun j => (h.immut i).2 j H⟩
theorem op_catS {X : Cx} : OpR X (binaryOp .Add) (fun x y H Q => ∃ l b xs zs, x = .ref l ∧ y = .ref b ∧ SqL X.K H l xs ∧ SqL X.K H b zs ∧ xs.length + zs.length ≤ sizeLine ∧ ∀ p, H p = none → Q (.ref p) (upd H p (.lst (xs ++ zs)))) := by
  intro pins s σ H x y v u Q I rx ry h
  obtain ⟨l, b, xs, zs, rfl, rfl, hH, hB, hz, q⟩ := h
  cases rx
  cases ry
  obtain ⟨its, r, ⟨⟨cls, dd, data, sl⟩, n, ho, hc, hdd, hd⟩, hl⟩ := I.list hH
  obtain ⟨its2, r2, ⟨⟨cls2, dd2, data2, sl2⟩, n2, ho2, hc2, hdd2, hd2⟩, hl2⟩ := I.list hB
  simp only at hc hd hc2 hd2
  subst hc hd hc2 hd2
  have ea : its.toArray ++ its2.toArray = (its ++ its2).toArray := by simp
  refine concat_meets ⟨_, ho, rfl⟩ ⟨_, ho2, rfl⟩ noFill_list_add seq_list_add PySem.F.slot_list_add PySem.F.entry_list_add (PySem.F.args_list_add_2 _ _) (PyProof.Rows.list_addW l b its.toArray its2.toArray n n2 dd dd2 sl sl2 ?_) ⟨ho, ho2, ?_⟩
  · rw [List.size_toArray, List.size_toArray, ← r.length, ← r2.length]
    exact hz
  · rw [ea]
    exact ⟨.ref _, _, I.lnew (t' := s.toks) (r.append r2) (by rw [List.length_append]; omega), rfl, q _ I.fresh⟩
def rCatS (K : PySem.W.Frag) : R2 := fun x y H Q => ∃ l b xs zs, x = .ref l ∧ y = .ref b ∧ SqL K H l xs ∧ SqL K H b zs ∧ xs.length + zs.length ≤ sizeLine ∧ ∀ p, H p = none → Q (.ref p) (upd H p (.lst (xs ++ zs)))
/-- how deep the items of a list, which is owned so deep, are owned -/
def gCat (as : List DK) (Γ : Gm) : Option (R DK) := match as with
  | [(k, .lst a), (j, .lst b)] => if a.length + b.length ≤ LINE then
      if immA a = true ∧ immA b = true then some (.ok (9, .lst (a ++ b)) Γ)
      else some (.ok (min k j - 1 + 1, .lst (a ++ b)) Γ)
    else none
  | _ => none
theorem lst_inv {m : Nat} {ds : List D} {v : V} {fp : List Addr} (ex : Ex Sh H) (h : Rp K Sh H m (.lst ds) v fp) : ∃ a vs gp, v = .ref a ∧ SqL K H a vs ∧ RpA K Sh H (m - 1) ds vs gp ∧ gp.Sublist fp := by
  cases h with
  | fz h t => exact ⟨_, _, _, rfl, ex.l h, t, List.Sublist.refl _⟩
  | own h t => exact ⟨_, _, _, rfl, SqL.of h, t, List.sublist_cons_self _ _⟩
theorem CallS.cat : CallS K W (r2 (rCatS K)) gCat := by
  intro as Γ res e vs σ H Sh O G l Q q
  unfold gCat at e
  split at e
  · rename_i k a j b
    split at e
    · rename_i hl
      match vs, l with
      | [x, y], _ =>
        obtain ⟨m, em⟩ : ∃ m, m = min k j := ⟨_, rfl⟩
        obtain ⟨Sh2, fp, O2, r, G2, nd, fr, e2⟩ := G.gather (m := m) (as := [(k, .lst a), (j, .lst b)]) (vs := [x, y]) rfl fun c hc => by
          rcases List.mem_cons.mp hc with rfl | hc
          · exact .inr (by simp only; omega)
          · rcases List.mem_cons.mp hc with rfl | hc
            · exact .inr (by simp only; omega)
            · cases hc
        cases r with
        | @cons _ _ _ _ _ f g h1 t1 =>
          cases t1 with
          | @cons _ _ _ _ _ f2 g2 h2 t2 =>
            cases t2
            rw [List.append_nil] at nd fr e2
            obtain ⟨p1, us1, gp1, rfl, s1, r1, sub1⟩ := lst_inv G2.ex h1
            obtain ⟨p2, us2, gp2, rfl, s2, r2', sub2⟩ := lst_inv G2.ex h2
            have subA : (gp1 ++ gp2).Sublist (f ++ f2) := sub1.append sub2
            refine ⟨p1, p2, us1, us2, rfl, rfl, s1, s2, line_le (by rw [← r1.length, ← r2'.length]; exact hl), fun p hp => ?_⟩
            have all := r1.append r2'
            split at e
            · rename_i im
              cases e
              have imA : immA (a ++ b) = true := by
                have : ∀ xs : List D, immA xs = true → immA (xs ++ b) = true := by
                  intro xs
                  induction xs with
                  | nil => intro _; exact im.2
                  | cons d r ih =>
                    intro h
                    rw [immA, Bool.and_eq_true] at h
                    rw [List.cons_append, immA, Bool.and_eq_true]
                    exact ⟨h.1, ih h.2⟩
                exact this a im.1
              obtain ⟨_, rj⟩ := all.all0 imA
              obtain ⟨G3, e3⟩ := G2.alloc (k := 9) (o := .lst (us1 ++ us2)) (fp := []) hp G2.nd (fun _ m => nomatch m) (fun _ m => nomatch m) (.own upd_same ((rj 8).mono (Ex.refl _) fun _ m => nomatch m))
              exact q _ _ _ _ ((e2.sub fun x mx => List.mem_append_right _ mx).trans e3) G3
            · cases e
              have nd2 : ((gp1 ++ gp2) ++ O2).Nodup := nd.sublist (subA.append_right O2)
              have th : ∀ x ∈ gp1 ++ gp2, H x ≠ none := all.there
              have fr2 : ∀ x ∈ gp1 ++ gp2, Sh2 x = none := fun x mx => fr x (subA.subset mx)
              obtain ⟨G3, e3⟩ := G2.alloc (k := m - 1 + 1) (o := .lst (us1 ++ us2)) hp nd2 fr2 th (.own upd_same (all.mono (Ex.refl _) fun x mx => upd_ne fun z => th x mx (z ▸ hp)))
              rw [em] at G3
              exact q _ _ _ _ ((e2.sub fun x mx => ((subA.append_right O2).subset mx)).trans e3) G3
    · cases e
  · cases e
/-! ### cut and copied: what is read stays -/
def cutD (ds : List D) (lo hi : Option Int) : List D := (ds.drop (HT.sIx ds.length 0 lo)).take (HT.sIx ds.length ds.length hi - HT.sIx ds.length 0 lo)
theorem RpA.drop : ∀ {n k : Nat} {ds : List D} {vs : List V} {fp : List Addr}, RpA K Sh H k ds vs fp → ∃ gp, RpA K Sh H k (ds.drop n) (vs.drop n) gp ∧ gp.Sublist fp
  | 0, _, _, _, fp, h => ⟨fp, h, List.Sublist.refl _⟩
  | n + 1, _, _, _, _, .nil => ⟨[], .nil, List.Sublist.refl _⟩
  | n + 1, _, _, _, _, .cons h t => by
    obtain ⟨gp, t', s⟩ := t.drop (n := n)
    exact ⟨gp, t', s.trans (List.sublist_append_right _ _)⟩
theorem RpA.take : ∀ {n k : Nat} {ds : List D} {vs : List V} {fp : List Addr}, RpA K Sh H k ds vs fp → ∃ gp, RpA K Sh H k (ds.take n) (vs.take n) gp ∧ gp.Sublist fp
  | 0, _, _, _, fp, h => ⟨[], .nil, List.nil_sublist _⟩
  | n + 1, _, _, _, _, .nil => ⟨[], .nil, List.Sublist.refl _⟩
  | n + 1, _, _, _, _, .cons h t => by
    obtain ⟨gp, t', s⟩ := t.take (n := n)
    exact ⟨_, .cons h t', s.append_left _⟩
theorem RpA.cut {k : Nat} {ds : List D} {vs : List V} {fp : List Addr} (h : RpA K Sh H k ds vs fp) (lo hi : Option Int) : ∃ gp, RpA K Sh H k (cutD ds lo hi) (cutV vs lo hi) gp ∧ gp.Sublist fp := by
  unfold cutD cutV
  rw [← h.length]
  obtain ⟨g1, h1, s1⟩ := h.drop (n := HT.sIx ds.length 0 lo)
  obtain ⟨g2, h2, s2⟩ := h1.take (n := HT.sIx ds.length ds.length hi - HT.sIx ds.length 0 lo)
  exact ⟨g2, h2, s2.trans s1⟩
/-- a new list of things that may be shared -/
def newL (k : Nat) (ds : List D) : Option DK := if immA ds = true then some (9, .lst ds) else if k ≤ 1 then some (1, .lst ds) else none
theorem Rps.newL {k : Nat} {ds : List D} {vs : List V} {fp : List Addr} {c : DK} (G : Rps K Γ σ H Sh O) (h : RpA K Sh H (k - 1) ds vs fp) (e : newL k ds = some c) {p : Addr} (hp : H p = none) :
    ∃ O', Rps K (some c :: Γ) (some (.ref p) :: σ) (upd H p (.lst vs)) Sh O' ∧ Evo H Sh O (upd H p (.lst vs)) Sh O' := by
  unfold Rh.newL at e
  split at e
  · rename_i im
    cases e
    obtain ⟨_, rj⟩ := h.all0 im
    obtain ⟨G3, e3⟩ := G.alloc (k := 9) (o := .lst vs) (fp := []) hp G.nd (fun _ m => nomatch m) (fun _ m => nomatch m) (.own upd_same ((rj 8).mono (Ex.refl _) fun _ m => nomatch m))
    exact ⟨_, G3, e3⟩
  · split at e
    · rename_i hk
      cases e
      have k0 : k - 1 = 0 := by omega
      rw [k0] at h
      obtain rfl := h.zero
      obtain ⟨G3, e3⟩ := G.alloc (k := 1) (o := .lst vs) (fp := []) hp G.nd (fun _ m => nomatch m) (fun _ m => nomatch m) (.own upd_same (h.mono (Ex.refl _) fun _ m => nomatch m))
      exact ⟨_, G3, e3⟩
    · cases e
/-- a part of a slice: left out, or an int -/
abbrev FO := Gm → Option (Option Int)
def SndO (K : PySem.W.Frag) (t : TO) (f : FO) : Prop := ∀ Γ r, f Γ = some r → ∀ σ H Sh O, Rps K Γ σ H Sh O → ∀ Q : Option Int → Hp → Prop, Q r H → t σ H Q
def oNone : FO := fun _ => some none
def oSome (f : FP) : FO := fun Γ => match f Γ with
  | some (_, .int i) => some (some i)
  | _ => none
theorem SndO.none : SndO K tNoPart oNone := by
  intro Γ r e σ H Sh O G Q q
  cases e
  exact q
theorem SndO.some {t : TE} {f : FP} (h : SndP K t f) : SndO K (tPart t) (oSome f) := by
  intro Γ r e σ H Sh O G Q q
  unfold oSome at e
  split at e
  · rename_i k i ea
    cases e
    obtain ⟨v, fp, hr, run⟩ := h Γ _ ea σ H Sh O G
    cases hr
    exact run _ ⟨i, rfl, q⟩
  · cases e
theorem SlR.or {X : Cx} {r r' : V → Option Int → Option Int → Hp → VK → Prop} (h : SlR X r) (h' : SlR X r') : SlR X (fun x lo hi H Q => r x lo hi H Q ∨ r' x lo hi H Q) := by
  intro pins s σ H x v vl vu lo hi sl Q I rx hs pl pu q
  rcases q with q | q
  · exact h pins s σ H x v vl vu lo hi sl Q I rx hs pl pu q
  · exact h' pins s σ H x v vl vu lo hi sl Q I rx hs pl pu q
def rSlA (K : PySem.W.Frag) : V → Option Int → Option Int → Hp → VK → Prop := fun x lo hi H Q => rSlL K x lo hi H Q ∨ rSlS x lo hi H Q
theorem sl_any {X : Cx} : SlR X (rSlA X.K) := SlR.or sl_list sl_str
def fSl (f : FP) (lo hi : FO) : FE := fun Γ => match f Γ, lo Γ, hi Γ with
  | some (k, .lst ds), some a, some b => match newL k (cutD ds a b) with
    | some c => some (.ok c Γ)
    | none => none
  | some (_, .str s), some a, some b => if s.length ≤ LINE then some (.ok (9, .str (cutS s a b)) Γ) else none
  | _, _, _ => none
theorem SndE.sl {te : TE} {tl th : TO} {f : FP} {lo hi : FO} (h : SndP K te f) (hl : SndO K tl lo) (hh : SndO K th hi) : SndE K W (tSl (rSlA K) te tl th) (fSl f lo hi) := by
  intro Γ r e σ H Sh O G Q q
  unfold fSl at e
  split at e
  · rename_i k ds a b ea eb ec
    split at e
    · rename_i c el
      cases e
      obtain ⟨v, fp, hr, run⟩ := h Γ _ ea σ H Sh O G
      obtain ⟨p, vs, gp, rfl, sq, t, _⟩ := lst_inv G.ex hr
      obtain ⟨gp2, t2, _⟩ := t.cut a b
      refine run _ (hl Γ _ eb σ H Sh O G _ (hh Γ _ ec σ H Sh O G _ (.inl ⟨p, vs, rfl, sq, fun p' hp => ?_⟩)))
      obtain ⟨O', G', e'⟩ := G.newL t2 el hp
      exact q _ _ _ _ e' G'
    · cases e
  · rename_i k s a b ea eb ec
    split at e
    · rename_i hl'
      cases e
      obtain ⟨v, fp, hr, run⟩ := h Γ _ ea σ H Sh O G
      cases hr
      exact run _ (hl Γ _ eb σ H Sh O G _ (hh Γ _ ec σ H Sh O G _ (.inr ⟨s, rfl, line_le hl', q _ H Sh O Evo.refl (G.push0 .str)⟩)))
    · cases e
  · cases e
/-- list(xs) -/
def fListP (f : FPA) : FE := fun Γ => match f Γ with
  | some [(k, .lst ds)] => match newL k ds with
    | some c => some (.ok c Γ)
    | none => none
  | some [(k, .tup ds)] => match newL (k + 1) ds with
    | some c => some (.ok c Γ)
    | none => none
  | _ => none
theorem SndPA.rps {t : TA} {f : FPA} {as : List DK} (h : SndPA K t f) (e : f Γ = some as) (G : Rps K Γ σ H Sh O) : True := trivial
end
section
variable {X : Cx} {W : WX} {a b e : Expr} {es : List Expr} {pos p2 : Pos} {fa fb : FE} {pa : FP} {lo hi : Option Expr} {ol oh : FO}
theorem pv_cat (ha : PV X W a fa) (hb : PV X W b fb) : PV X W (.BinOp a .Add b pos) (fCallS gCat (fCons fa (fCons fb fNil))) :=
  let ⟨_, h1, s1⟩ := ha; let ⟨_, h2, s2⟩ := hb; ⟨_, pe_op op_catS h1 h2, SndE.callS (r := r2 (rCatS X.K)) (.cons s1 (.cons s2 .nil)) CallS.cat⟩
def OV (X : Cx) (e : Option Expr) (f : FO) : Prop := ∃ t, PO X e t ∧ SndO X.K t f
theorem ov_n : OV X none oNone := ⟨_, po_none, .none⟩
theorem ov_s (h : PP X a pa) : OV X (some a) (oSome pa) := let ⟨_, h1, s1⟩ := h; ⟨_, po_some h1, .some s1⟩
theorem pv_sl (h : PP X e pa) (hl : OV X lo ol) (hh : OV X hi oh) : PV X W (.Subscript e (.Slice lo hi none p2) pos) (fSl pa ol oh) := let ⟨_, h1, s1⟩ := h; let ⟨_, h2, s2⟩ := hl; let ⟨_, h3, s3⟩ := hh; ⟨_, pe_slice sl_any h1 h2 h3, .sl s1 s2 s3⟩
/-- a built-in class as a value -/
theorem pp_type {x : Str} {n : String} {pos : Pos} (hm : X.mg x = none) (hv : bootBuiltins x = some (.type n)) (hg : Gl X x := by rfl) (hn : x ≠ "__name__" := by decide) (hd : (x == ("__debug__" : Str)) = false := by decide) : PP X (.Name x pos) (fun _ => some (9, .ty n)) :=
  ⟨_, pe_bltn (v := .ty n) hg hm hv rfl hn hd, SndP.con rfl⟩
end
end Rh
/-! Rh17: a peek beside a display of plain things. -/
namespace Rh
open PySem L2
section
variable {K : PySem.W.Frag} {W : WX} {fx : List Nat} {Γ Γ' : Gm} {σ σ' : L2.St} {H Sh H' Sh' : Hp} {O O' O2 : List Addr}
theorem RpL.plain : ∀ {ds : List D} {vs : List V}, RpL K Sh H ds vs → immA ds = true → ∀ (k : Nat) (H' : Hp), RpA K Sh H' k ds vs []
  | [], [], _, _, k, H' => .nil
  | d :: ds, v :: vs, ⟨⟨j, fp, h⟩, t⟩, i, k, H' => by
    rw [immA, Bool.and_eq_true] at i
    obtain ⟨rfl, rj⟩ := h.immut i.1
    exact .cons (f := []) (rj k H') (RpL.plain t i.2 k H')
  | [], _ :: _, h, _, _, _ => h.elim
  | _ :: _, [], h, _, _, _ => h.elim
def fCmpD (g : List D → Option D) (p : FP) (f : FPA) : FE := fun Γ => match p Γ, f Γ with
  | some a, some bs => if immA (bs.map (·.2)) = true ∧ bs.length ≤ LINE then match g [a.2, .lst (bs.map (·.2))] with
    | some c => some (.ok (9, c) Γ)
    | none => none else none
  | _, _ => none
theorem SndE.cmpD {tp : TE} {ta : TA} {p : FP} {f : FPA} {r : R2} {g : List D → Option D} (h : SndP K tp p) (hf : SndPA K ta f) (c : CallP K (r2 r) g) : SndE K W (tOp r tp (tLst ta)) (fCmpD g p f) := by
  intro Γ res e σ H Sh O G Q q
  unfold fCmpD at e
  split at e
  · rename_i a bs ea eb
    split at e
    · rename_i hi
      split at e
      · rename_i d eg
        cases e
        obtain ⟨v, fp, rp, run⟩ := h Γ _ ea σ H Sh O G
        obtain ⟨vs, rl, run2⟩ := hf Γ _ eb σ H Sh O G
        refine run _ (run2 _ ⟨line_le (by rw [← rl.length]; simpa using hi.2), fun q1 hq => ?_⟩)
        have pl := RpL.plain rl hi.1
        obtain ⟨G3, e3⟩ := G.alloc (o := .lst vs) hq (fp := []) G.nd (fun _ m => nomatch m) (fun _ m => nomatch m) (.own (k := 8) upd_same (pl 8 _))
        obtain ⟨O4, s4, G4⟩ := G3.tail
        have h1 : Rp K Sh (upd H q1 (.lst vs)) a.1 a.2 v fp := rp.mono (Ex.refl _) fun x m => upd_ne fun z => rp.there x m (z ▸ hq)
        obtain ⟨w, sv, run3⟩ := c _ _ eg [v, .ref q1] (upd H q1 (.lst vs)) Sh G3.ex ⟨⟨_, _, h1⟩, ⟨9, _, .own (k := 8) upd_same (pl 8 _)⟩, trivial⟩
        exact run3 Q (q w _ Sh O4 (e3.sub s4) (G4.push0 (D.sv_rp sv 9)))
      · cases e
    · cases e
  · cases e
end
section
variable {X : Cx} {W : WX} {a b : Expr} {es : List Expr} {pos : Pos} {pa : FP} {f : FPA}
theorem pv_cmpD {op : CmpOp} {r : R2} {g : List D → Option D} (ho : OpR X (compareOp op) r) (c : CallP X.K (r2 r) g) (ha : PP X a pa) (hb : PQ X es f) (hm : behindInMarks op (.List es pos) = false) : PV X W (.Compare a [op] [.List es pos] pos) (fCmpD g pa f) :=
  let ⟨_, h1, s1⟩ := ha; let ⟨_, h2, s2⟩ := hb; ⟨_, pe_cmpR ho h1 (pe_lst h2) hm, SndE.cmpD s1 s2 c⟩
theorem tv_cmpD {op : CmpOp} {r : R2} {g : List D → Option D} {pos2 : Pos} (ho : OpR X (compareOp op) r) (c : CallP X.K (r2 r) g) (ha : PP X a pa) (hb : PQ X es f) (hm : behindInMarks op (.List es pos2) = false) : TV X W (.Compare a [op] [.List es pos2] pos) (fTest (fCmpD g pa f)) :=
  let ⟨_, h1, s1⟩ := ha; let ⟨_, h2, s2⟩ := hb; ⟨_, pt_cmpR ho h1 (pe_lst h2) hm, SndT.test (SndE.cmpD s1 s2 c)⟩
theorem pp_gS {x : Str} {c : Str} (hm : ∃ t, X.mg x = some (.str c t)) (hg : Gl X x := by rfl) (hd : (x == ("__debug__" : Str)) = false := by decide) : PP X (.Name x pos) (fun _ => some (9, .str c)) :=
  let ⟨_, e⟩ := hm; pp_glob (v := .str c) e ⟨_, rfl⟩ rfl hg hd
theorem pp_gI {x : Str} {c : Int} (hm : ∃ t, X.mg x = some (.int c t)) (hg : Gl X x := by rfl) (hd : (x == ("__debug__" : Str)) = false := by decide) : PP X (.Name x pos) (fun _ => some (9, .int c)) :=
  let ⟨_, e⟩ := hm; pp_glob (v := .int c) e ⟨_, rfl⟩ rfl hg hd
end
end Rh
/-! Rh18: what a mirror gives, asked backwards. -/
namespace Rh
open PySem L2
def Wp {α : Type} (m : Option α) (Q : α → Prop) : Prop := match m with
  | some a => Q a
  | none => False
def We {α : Type} (m : Option (R α)) (Q : α → Gm → Prop) (Z : Xn → Gm → Prop) : Prop := match m with
  | some (.ok a Γ) => Q a Γ
  | some (.ex x Γ) => Z x Γ
  | none => False
structure SQ where
  nx : Gm → Prop
  rt : DK → Gm → Prop
  bk : Gm → Prop
  ct : Gm → Prop
  ex : Xn → Gm → Prop
def Ws (m : Option S) (E : SQ) : Prop := match m with
  | some (.nx Γ) => E.nx Γ
  | some (.rt a Γ) => E.rt a Γ
  | some (.bk Γ) => E.bk Γ
  | some (.ct Γ) => E.ct Γ
  | some (.ex x Γ) => E.ex x Γ
  | none => False
def Wm (m : Option FR) (Q : DK → Gm → Prop) (Z : Xn → Gm → Prop) : Prop := match m with
  | some (.ret a o) => Q a o
  | some (.exn x o) => Z x o
  | none => False
section
variable {α β : Type} {Γ Γ1 : Gm} {Z : Xn → Gm → Prop} {E : SQ} {Qe : DK → Gm → Prop} {Qp : DK → Prop} {Qd : D → Prop} {Qa : List DK → Gm → Prop} {Qb : Bool → Gm → Prop} {Qg : Gm → Prop}
theorem we_bind {m : Option (R α)} {k : α → Gm → Option (R β)} {Q : β → Gm → Prop} (h : We m (fun a Γ1 => We (k a Γ1) Q Z) Z) : We (R.bind m k) Q Z := by
  match m, h with
  | some (.ok a Γ), h => exact h
  | some (.ex x Γ), h => exact h
  | none, h => exact h
theorem We.imp {m : Option (R α)} {Q Q' : α → Gm → Prop} (h : We m Q Z) (i : ∀ a Γ, Q a Γ → Q' a Γ) : We m Q' Z := by
  match m, h with
  | some (.ok a Γ), h => exact i _ _ h
  | some (.ex x Γ), h => exact h
  | none, h => exact h
theorem Ws.imp {m : Option S} {E E' : SQ} (h : Ws m E) (i1 : ∀ Γ, E.nx Γ → E'.nx Γ) (i2 : ∀ a Γ, E.rt a Γ → E'.rt a Γ) (i3 : ∀ Γ, E.bk Γ → E'.bk Γ) (i4 : ∀ Γ, E.ct Γ → E'.ct Γ) (i5 : ∀ x Γ, E.ex x Γ → E'.ex x Γ) : Ws m E' := by
  match m, h with
  | some (.nx Γ), h => exact i1 _ h
  | some (.rt a Γ), h => exact i2 _ _ h
  | some (.bk Γ), h => exact i3 _ h
  | some (.ct Γ), h => exact i4 _ h
  | some (.ex x Γ), h => exact i5 _ _ h
theorem Wp.get {m : Option α} {Q : α → Prop} (h : Wp m Q) : ∃ a, m = some a ∧ Q a := by
  match m, h with
  | some a, h => exact ⟨a, rfl, h⟩
theorem wp_some {a : α} {Q : α → Prop} (h : Q a) : Wp (some a) Q := h
theorem wp_of {m : Option α} {a : α} {Q : α → Prop} (e : m = some a) (h : Q a) : Wp m Q := e ▸ h
/-! ### peeks -/
theorem wp_name {i : Nat} {a : DK} (e : Γ[i]? = some (some a)) (h : Qp a) : Wp (pName i Γ) Qp := by
  unfold pName
  rw [e]
  exact h
def Wl (m : Option (List DK)) (Q : List D → Prop) : Prop := match m with
  | some as => Q (as.map (·.2))
  | none => False
theorem wl_nil {Q : List D → Prop} (h : Q []) : Wl (pNil Γ) Q := h
theorem wl_cons {Q : List D → Prop} {pa : FP} {pr : FPA} (h : Wp (pa Γ) fun a => Wl (pr Γ) fun ds => Q (a.2 :: ds)) : Wl (pCons pa pr Γ) Q := by
  unfold pCons
  match pa Γ, h with
  | some a, h =>
    dsimp only
    match pr Γ, h with
    | some as, h => exact h
theorem wp_om {m : Option α} {k : α → β} {Q : β → Prop} (h : Wp m fun a => Q (k a)) : Wp (match m with | some a => some (k a) | none => none) Q := by
  cases m with
  | none => exact h
  | some a => exact h
theorem we_om {m : Option α} {k : α → β} {Γ1 : Gm} {Q : β → Gm → Prop} (h : Wp m fun a => Q (k a) Γ1) : We (match m with | some a => some (R.ok (k a) Γ1) | none => none) Q Z := by
  cases m with
  | none => exact h
  | some a => exact h
theorem wp_call {g : List D → Option D} {f : FPA} (h : Wl (f Γ) fun ds => Wp (g ds) fun d => Qp (9, d)) : Wp (pCall g f Γ) Qp := by
  unfold pCall
  cases ea : f Γ with
  | none => rw [ea] at h; exact h
  | some as =>
    rw [ea] at h
    change Wp (g (as.map (·.2))) _ at h
    dsimp only
    split
    · rename_i c ec
      rw [ec] at h
      exact h
    · rename_i ec
      rw [ec] at h
      exact h
theorem wp_ix {pa pb : FP} (h : Wp (pa Γ) fun a => Wp (pb Γ) fun b => ∃ k i, b = (k, .int i) ∧ Wp (ixD a i) Qp) : Wp (pIx pa pb Γ) Qp := by
  unfold pIx
  match pa Γ, h with
  | some a, h =>
    match pb Γ, h with
    | some b, h =>
      obtain ⟨k, i, rfl, h⟩ := h
      exact h
theorem we_fP {p : FP} (h : Wp (p Γ) fun a => (a.2.imm = true ∧ Qe (9, a.2) Γ) ∨ (a.2.imm = false ∧ a.1 = 0 ∧ Qe (0, a.2) Γ)) : We (fP p Γ) Qe Z := by
  unfold fP
  match p Γ, h with
  | some (k, d), .inl ⟨h1, h2⟩ => dsimp only; rw [if_pos h1]; exact h2
  | some (k, d), .inr ⟨h1, h2, h3⟩ =>
    dsimp only at h1 h2 ⊢
    rw [if_neg (by rw [h1]; exact nofun), if_pos h2]
    exact h3
/-- .. of a plain thing -/
theorem we_fPi {p : FP} (h : Wp (p Γ) fun a => a.2.imm = true ∧ Qe (9, a.2) Γ) : We (fP p Γ) Qe Z := by
  refine we_fP ?_
  match p Γ, h with
  | some a, h => exact .inl h
/-! ### what operators give -/
section
variable {i j : Int}
theorem wd_add (h : Qd (.int (i + j))) : Wp (gAdd [.int i, .int j]) Qd := h
theorem wd_sub (h : Qd (.int (i - j))) : Wp (gSub [.int i, .int j]) Qd := h
theorem wd_mul (c : i.natAbs.log2 + j.natAbs.log2 < 1000000) (h : Qd (.int (i * j))) : Wp (gMul [.int i, .int j]) Qd := by
  unfold gMul gII; dsimp only; rw [if_pos c]; exact h
theorem wd_mod (c : 0 < j) (h : Qd (.int (i % j))) : Wp (gMod [.int i, .int j]) Qd := by
  unfold gMod gII; dsimp only; rw [if_pos c]; exact h
theorem wd_div (c : 0 < j) (c2 : j.natAbs.log2 < 9000) (h : Qd (.int (i / j))) : Wp (gDiv [.int i, .int j]) Qd := by
  unfold gDiv gII; dsimp only; rw [if_pos ⟨c, c2⟩]; exact h
theorem wd_pow (c : 0 ≤ j) (c2 : (Builtin.Int.intBits i : Int) * j ≤ 2 ^ 27) (h : Qd (.int (i ^ j.toNat))) : Wp (gPow [.int i, .int j]) Qd := by
  unfold gPow gII; dsimp only; rw [if_pos ⟨c, c2⟩]; exact h
theorem wd_cmp {f : Int → Int → Bool} (h : Qd (.bl (f i j))) : Wp (gCmp f [.int i, .int j]) Qd := h
theorem wd_neg (h : Qd (.int (-i))) : Wp (gNeg [.int i]) Qd := h
theorem wd_max (h : Qd (.int (if j > i then j else i))) : Wp (gMax [.int i, .int j]) Qd := h
theorem wd_min (h : Qd (.int (if j < i then j else i))) : Wp (gMin [.int i, .int j]) Qd := h
theorem wd_abs (h : Qd (.int (if i < 0 then -i else i))) : Wp (gAbs [.int i]) Qd := h
theorem wd_int (h : Qd (.int i)) : Wp (gInt [.int i]) Qd := h
theorem wd_lenL {ds : List D} (h : Qd (.int ds.length)) : Wp (gLen [.lst ds]) Qd := h
theorem wd_lenT {ds : List D} (h : Qd (.int ds.length)) : Wp (gLen [.tup ds]) Qd := h
theorem eqv_int {i j : Int} : eqD (.int i) (.int j) = some (decide (i = j)) := by
  simp only [eqD, toPy]
  rw [if_pos ⟨rfl, rfl⟩]
  rfl
theorem eqv_bool {i j : Bool} : eqD (.bl i) (.bl j) = some (decide (i = j)) := by
  cases i <;> cases j <;> decide
theorem wd_eqI (h : Qd (.bl (decide (i = j)))) : Wp (gEq [.int i, .int j]) Qd := by
  simp only [gEq, eqA, strE, eqv_int]; exact h
theorem wd_neI (h : Qd (.bl (!decide (i = j)))) : Wp (gNe [.int i, .int j]) Qd := by
  simp only [gNe, eqA, strE, eqv_int]; exact h
theorem wd_eqB {i j : Bool} (h : Qd (.bl (decide (i = j)))) : Wp (gEq [.bl i, .bl j]) Qd := by
  simp only [gEq, eqA, strE, eqv_bool]; exact h
theorem wd_neB {i j : Bool} (h : Qd (.bl (!decide (i = j)))) : Wp (gNe [.bl i, .bl j]) Qd := by
  simp only [gNe, eqA, strE, eqv_bool]; exact h
theorem wd_isN {d : D} (h : Qd (.bl (isNon d))) : Wp (gIsN [d, .non]) Qd := h
theorem wd_notN {d : D} (h : Qd (.bl (!isNon d))) : Wp (gNotN [d, .non]) Qd := h
theorem wd_isiB {b : Bool} {m : String} {c : Bool} (e : kitB "bool" m = some c) (h : Qd (.bl c)) : Wp (gIsi [.bl b, .ty m]) Qd := by
  simp only [gIsi, tyName, e]; exact h
theorem wd_isiI {b : Int} {m : String} {c : Bool} (e : kitB "int" m = some c) (h : Qd (.bl c)) : Wp (gIsi [.int b, .ty m]) Qd := by
  simp only [gIsi, tyName, e]; exact h
end
theorem wi_lst {k : Nat} {ds : List D} {i : Int} (h : Wp (atI ds i) fun d => Qp (k - 1, d)) : Wp (ixD (k, .lst ds) i) Qp := by
  cases e : atI ds i with
  | none => rw [e] at h; exact h.elim
  | some d =>
    rw [e] at h
    simp only [ixD, e, Option.map_some]
    exact h
theorem wi_tup {k : Nat} {ds : List D} {i : Int} (h : Wp (atI ds i) fun d => Qp (k, d)) : Wp (ixD (k, .tup ds) i) Qp := by
  cases e : atI ds i with
  | none => rw [e] at h; exact h.elim
  | some d =>
    rw [e] at h
    simp only [ixD, e, Option.map_some]
    exact h
/-! ### values -/
theorem we_nil (h : Qa [] Γ) : We (fNil Γ) Qa Z := h
theorem we_cons {fa : FE} {fr : FA} (h : We (fa Γ) (fun a Γ1 => We (fr Γ1) (fun as Γ2 => Qa (a :: as) Γ2) Z) Z) : We (fCons fa fr Γ) Qa Z := we_bind (h.imp fun _ _ h => we_bind h)
theorem we_call {g : List D → Option D} {f : FA} (h : We (f Γ) (fun as Γ1 => Wp (g (as.map (·.2))) fun d => Qe (9, d) Γ1) Z) : We (fCall g f Γ) Qe Z := we_bind (h.imp fun as Γ1 h => by
  split
  · rename_i c ec
    rw [ec] at h
    exact h
  · rename_i ec
    rw [ec] at h
    exact h)
theorem we_callS {g : List DK → Gm → Option (R DK)} {f : FA} (h : We (f Γ) (fun as Γ1 => We (g as Γ1) Qe Z) Z) : We (fCallS g f Γ) Qe Z := we_bind h
theorem we_lst {as : List DK} (c : as.length ≤ LINE) (h : Qe (minK as + 1, .lst (as.map (·.2))) Γ) : We (gLst as Γ) Qe Z := by
  unfold gLst; rw [if_pos c]; exact h
theorem we_tup {as : List DK} (c : as.length ≤ LINE) (h : Qe (minK as, .tup (as.map (·.2))) Γ) : We (gTup as Γ) Qe Z := by
  unfold gTup; rw [if_pos c]; exact h
theorem we_ix {a : DK} {k : Nat} {i : Int} (h : Wp (ixD a i) fun c => Qe c Γ) : We (gIx [a, (k, .int i)] Γ) Qe Z := by
  unfold gIx
  dsimp only
  match ixD a i, h with
  | some d, h => exact h
theorem we_fz {i k : Nat} {d : D} (e : Γ[i]? = some (some (k, d))) (h : Qe (0, d) (Γ.set i (some (0, d)))) : We (fFz i Γ) Qe Z := by
  unfold fFz; rw [e]; exact h
theorem we_mv {i : Nat} {a : DK} (e : Γ[i]? = some (some a)) (h : Qe a (Γ.set i none)) : We (fMv i Γ) Qe Z := by
  unfold fMv; rw [e]; exact h
theorem we_and {f g : FE} (h : We (f Γ) (fun a Γ1 => ∃ k b, a = (k, .bl b) ∧ (b = true → We (g Γ1) Qe Z) ∧ (b = false → Qe (9, .bl false) Γ1)) Z) : We (fAndV f g Γ) Qe Z := we_bind (h.imp fun a Γ1 ⟨k, b, e, h1, h2⟩ => by
  subst e
  cases b with
  | true => exact h1 rfl
  | false => exact h2 rfl)
theorem we_or {f g : FE} (h : We (f Γ) (fun a Γ1 => ∃ k b, a = (k, .bl b) ∧ (b = true → Qe (9, .bl true) Γ1) ∧ (b = false → We (g Γ1) Qe Z)) Z) : We (fOrV f g Γ) Qe Z := we_bind (h.imp fun a Γ1 ⟨k, b, e, h1, h2⟩ => by
  subst e
  cases b with
  | true => exact h1 rfl
  | false => exact h2 rfl)
theorem we_not {f : FE} (h : We (f Γ) (fun a Γ1 => ∃ k b, a = (k, .bl b) ∧ Qe (9, .bl (!b)) Γ1) Z) : We (fNotV f Γ) Qe Z := we_bind (h.imp fun a Γ1 ⟨k, b, e, h1⟩ => by subst e; exact h1)
theorem we_if {c : FT} {f g : FE} (h : We (c Γ) (fun b Γ1 => (b = true → We (f Γ1) Qe Z) ∧ (b = false → We (g Γ1) Qe Z)) Z) : We (fIf c f g Γ) Qe Z := we_bind (h.imp fun b Γ1 ⟨h1, h2⟩ => by
  cases b with
  | true => exact h1 rfl
  | false => exact h2 rfl)
theorem we_cmpD {g : List D → Option D} {p : FP} {f : FPA} (h : Wp (p Γ) fun a => Wl (f Γ) fun ds => immA ds = true ∧ ds.length ≤ LINE ∧ Wp (g [a.2, .lst ds]) fun d => Qe (9, d) Γ) : We (fCmpD g p f Γ) Qe Z := by
  unfold fCmpD
  match p Γ, h with
  | some a, h =>
    match f Γ, h with
    | some bs, ⟨h1, h2, h3⟩ =>
      dsimp only
      rw [if_pos ⟨h1, by simpa using h2⟩]
      split
      · rename_i c ec
        rw [ec] at h3
        exact h3
      · rename_i ec
        rw [ec] at h3
        exact h3
/-! ### tests -/
theorem wt_test {f : FE} (h : We (f Γ) (fun a Γ1 => ∃ k b, a = (k, .bl b) ∧ Qb b Γ1) Z) : We (fTest f Γ) Qb Z := we_bind (h.imp fun a Γ1 ⟨k, b, e, h1⟩ => by subst e; exact h1)
theorem wt_tru {f : FE} (h : We (f Γ) (fun a Γ1 => Wp (truD a.2) fun b => Qb b Γ1) Z) : We (fTru f Γ) Qb Z := we_bind (h.imp fun a Γ1 h1 => by
  match truD a.2, h1 with
  | some b, h1 => exact h1)
theorem wt_truP {f : FP} (h : Wp (f Γ) (fun a => Wp (truD a.2) fun b => Qb b Γ)) : We (fTruP f Γ) Qb Z := by
  unfold fTruP
  match f Γ, h with
  | some a, h =>
    dsimp only
    have h : Wp (truD a.2) fun b => Qb b Γ := h
    match truD a.2, h with
    | some b, h1 => exact h1
theorem wt_and {f g : FT} (h : We (f Γ) (fun b Γ1 => (b = true → We (g Γ1) Qb Z) ∧ (b = false → Qb false Γ1)) Z) : We (fAnd f g Γ) Qb Z := we_bind (h.imp fun b Γ1 ⟨h1, h2⟩ => by
  cases b with
  | true => exact h1 rfl
  | false => exact h2 rfl)
theorem wt_or {f g : FT} (h : We (f Γ) (fun b Γ1 => (b = true → Qb true Γ1) ∧ (b = false → We (g Γ1) Qb Z)) Z) : We (fOr f g Γ) Qb Z := we_bind (h.imp fun b Γ1 ⟨h1, h2⟩ => by
  cases b with
  | true => exact h1 rfl
  | false => exact h2 rfl)
theorem wt_not {f : FT} (h : We (f Γ) (fun b Γ1 => Qb (!b) Γ1) Z) : We (fNot f Γ) Qb Z := we_bind h
theorem wu_bl {b : Bool} {Q : Bool → Prop} (h : Q b) : Wp (truD (.bl b)) Q := h
theorem wu_int {b : Int} {Q : Bool → Prop} (h : Q (b != 0)) : Wp (truD (.int b)) Q := h
theorem wu_lst {ds : List D} {Q : Bool → Prop} (h : Q (!ds.isEmpty)) : Wp (truD (.lst ds)) Q := h
theorem wu_non {Q : Bool → Prop} (h : Q false) : Wp (truD .non) Q := h
/-! ### statements -/
theorem ws_of {f : FE} {k : DK → Gm → Option S} (h : We (f Γ) (fun a Γ1 => Ws (k a Γ1) E) E.ex) : Ws (gOf f k Γ) E := by
  unfold gOf
  match f Γ, h with
  | some (.ok a Γ1), h => exact h
  | some (.ex x Γ1), h => exact h
theorem ws_nx (h : E.nx Γ) : Ws (gNx Γ) E := h
theorem ws_bk (h : E.bk Γ) : Ws (gBk Γ) E := h
theorem ws_ct (h : E.ct Γ) : Ws (gCt Γ) E := h
theorem ws_seq {f g : FS} (h : Ws (f Γ) ⟨fun Γ1 => Ws (g Γ1) E, E.rt, E.bk, E.ct, E.ex⟩) : Ws (gSeq f g Γ) E := by
  unfold gSeq
  match f Γ, h with
  | some (.nx Γ), h => exact h
  | some (.rt a Γ), h => exact h
  | some (.bk Γ), h => exact h
  | some (.ct Γ), h => exact h
  | some (.ex x Γ), h => exact h
theorem ws_ret {f : FE} (h : We (f Γ) (fun a Γ1 => E.rt a Γ1) E.ex) : Ws (gRet f Γ) E := ws_of h
theorem ws_retN (h : E.rt (9, .non) Γ) : Ws (gRetN Γ) E := h
theorem ws_exp {f : FE} (h : We (f Γ) (fun a Γ1 => E.nx Γ1) E.ex) : Ws (gExp f Γ) E := ws_of h
theorem ws_asg {f : FE} {g : FG} (h : We (f Γ) (fun a Γ1 => Wp (g a Γ1) E.nx) E.ex) : Ws (gAsg f g Γ) E := ws_of (h.imp fun a Γ1 h => by
  cases eg : g a Γ1 with
  | none => rw [eg] at h; exact h
  | some Γ2 => rw [eg] at h; exact h)
theorem ws_if {c : FT} {f g : FS} (h : We (c Γ) (fun b Γ1 => (b = true → Ws (f Γ1) E) ∧ (b = false → Ws (g Γ1) E)) E.ex) : Ws (gIfS c f g Γ) E := by
  unfold gIfS
  match c Γ, h with
  | some (.ok true Γ1), h => exact h.1 rfl
  | some (.ok false Γ1), h => exact h.2 rfl
  | some (.ex x Γ1), h => exact h
theorem ws_par {fx : List Nat} {i j : Nat} {f : FA} (h : We (f Γ) (fun as Γ1 => ∃ a b, as = [a, b] ∧ (decide (i < Γ1.length) && decide (j < Γ1.length) && (!fx.contains i) && !fx.contains j) = true ∧ E.nx ((Γ1.set i (some a)).set j (some b))) E.ex) : Ws (gPar fx i j f Γ) E := by
  unfold gPar
  match f Γ, h with
  | some (.ok as Γ1), ⟨a, b, e, h1, h2⟩ =>
    subst e
    dsimp only
    simp only [Bool.and_eq_true, decide_eq_true_eq, Bool.not_eq_true', List.contains_eq_mem, decide_eq_false_iff_not] at h1
    rw [if_pos ⟨h1.1.1.1, h1.1.1.2, h1.1.2, h1.2⟩]
    exact h2
  | some (.ex x Γ1), h => exact h
theorem wg_name {fx : List Nat} {i : Nat} {a : DK} (c : (decide (i < Γ.length) && !fx.contains i) = true) (h : Qg (Γ.set i (some a))) : Wp (hName fx i a Γ) Qg := by
  unfold hName
  simp only [Bool.and_eq_true, decide_eq_true_eq, Bool.not_eq_true', List.contains_eq_mem, decide_eq_false_iff_not] at c
  rw [if_pos c]
  exact h
theorem wg_nil (h : Qg Γ) : Wp (hNil [] Γ) Qg := h
theorem wg_cons {f : FG} {fs : FGs} {a : DK} {r : List DK} (h : Wp (f a Γ) fun Γ1 => Wp (fs r Γ1) Qg) : Wp (hCons f fs (a :: r) Γ) Qg := by
  unfold hCons
  cases e : f a Γ with
  | none => rw [e] at h; exact h.elim
  | some Γ1 => rw [e] at h; dsimp only; rw [e]; exact h
theorem wg_tup {n k : Nat} {fs : FGs} {ds : List D} (c : ds.length = n) (h : Wp (fs (ds.map fun d => (k, d)) Γ) Qg) : Wp (hTup n fs (k, .tup ds) Γ) Qg := by
  unfold hTup
  dsimp only
  rw [if_pos c]
  exact h
theorem wg_sub {fx : List Nat} {j : Nat} {l : FL} {fi : FP} {a b : DK} (e : Γ[j]? = some (some b)) (h : Wp (l b Γ) fun p => Wp (fi Γ) fun q => ∃ k ds put kk i m, p = (k + 1, .lst ds, put) ∧ q = (kk, .int i) ∧ ixN ds.length i = some m ∧ (a.2.imm = true ∨ k ≤ a.1) ∧ Qg (Γ.set j (some (b.1, put (.lst (ds.set m a.2)))))) : Wp (hSub fx j l fi a Γ) Qg := by
  unfold hSub
  rw [e]
  dsimp only
  match l b Γ, h with
  | some p, h =>
    match fi Γ, h with
    | some q, ⟨k, ds, put, kk, i, m, e1, e2, e3, e4, h5⟩ =>
      subst e1 e2
      dsimp only
      rw [e3]
      dsimp only
      rw [if_pos e4]
      exact h5
theorem wl_name {a : DK} {Q : (Nat × D × (D → D)) → Prop} (h : Q (a.1, a.2, id)) : Wp (lName a Γ) Q := h
theorem wl_ix {l : FL} {fi : FP} {a : DK} {Q : (Nat × D × (D → D)) → Prop} (h : Wp (l a Γ) fun p => Wp (fi Γ) fun q => ∃ k ds put kk i m d, p = (k + 1, .lst ds, put) ∧ q = (kk, .int i) ∧ ixN ds.length i = some m ∧ ds[m]? = some d ∧ Q (k, d, put ∘ fun d' => .lst (ds.set m d'))) : Wp (lIx l fi a Γ) Q := by
  unfold lIx
  match l a Γ, h with
  | some p, h =>
    match fi Γ, h with
    | some q, ⟨k, ds, put, kk, i, m, d, e1, e2, e3, e4, h5⟩ =>
      subst e1 e2
      dsimp only
      rw [e3]
      dsimp only
      rw [e4]
      exact h5
theorem we_meth {j : Nat} {l : FL} {op : Op} {f : FA} {b : DK} (e : Γ[j]? = some (some b)) (h : Wp (l b Γ) fun p => ∃ k ds put, p = (k + 1, .lst ds, put) ∧ We (f (Γ.set j none)) (fun as Γ1 => Γ1[j]? = some none ∧ okDeep k as = true ∧ Wp (op k ds as) fun r => Qe r.2 (Γ1.set j (some (b.1, put (.lst r.1))))) Z) : We (fMeth j l op f Γ) Qe Z := by
  unfold fMeth
  rw [e]
  dsimp only
  match l b Γ, h with
  | some p, ⟨k, ds, put, e1, h⟩ =>
    subst e1
    dsimp only
    refine we_bind (h.imp fun as Γ1 ⟨h1, h2, h3⟩ => ?_)
    rw [h1]
    dsimp only
    rw [if_pos h2]
    match op k ds as, h3 with
    | some r, h3 => exact h3
/-! ### loops -/
theorem wi_lstF {f : FE} {Q : List D → Gm → Prop} (h : We (f Γ) (fun a Γ1 => ∃ k ds, a = (k, .lst ds) ∧ Q ds Γ1) Z) : We (fItL f Γ) Q Z := we_bind (h.imp fun a Γ1 ⟨k, ds, e, h⟩ => by subst e; exact h)
theorem wi_tupF {f : FE} {Q : List D → Gm → Prop} (h : We (f Γ) (fun a Γ1 => ∃ k ds, a = (k, .tup ds) ∧ Q ds Γ1) Z) : We (fItT f Γ) Q Z := we_bind (h.imp fun a Γ1 ⟨k, ds, e, h⟩ => by subst e; exact h)
theorem wi_rng {f : FA} {Q : List D → Gm → Prop} (h : We (f Γ) (fun as Γ1 => ∃ k j, as = [(k, .int j)] ∧ -(2 ^ 62) ≤ j ∧ j < 2 ^ 62 ∧ Q (rngD 0 j.toNat) Γ1) Z) : We (fRng f Γ) Q Z := we_bind (h.imp fun as Γ1 ⟨k, j, e, h1, h2, h3⟩ => by
  subst e
  dsimp only
  rw [if_pos ⟨h1, h2⟩]
  exact h3)
theorem wi_rng2 {f : FA} {Q : List D → Gm → Prop} (h : We (f Γ) (fun as Γ1 => ∃ k i kk j, as = [(k, .int i), (kk, .int j)] ∧ (-(2 ^ 62) ≤ i ∧ i < 2 ^ 62 ∧ -(2 ^ 62) ≤ j ∧ j < 2 ^ 62) ∧ Q (rngD i (j - i).toNat) Γ1) Z) : We (fRng2 f Γ) Q Z := we_bind (h.imp fun as Γ1 ⟨k, i, kk, j, e, h1, h3⟩ => by
  subst e
  dsimp only
  rw [if_pos h1]
  exact h3)
theorem ws_for {f : FI} {h : FG} {b : FS} (q : We (f Γ) (fun ds Γ1 => Ws (forG h b ds Γ1) E) E.ex) : Ws (gFor f h b Γ) E := by
  unfold gFor
  match f Γ, q with
  | some (.ok ds Γ1), q => exact q
  | some (.ex x Γ1), q => exact q
theorem ws_forG {h : FG} {b : FS} (I : List D → Gm → Prop) (hstep : ∀ d ds Γ, I (d :: ds) Γ → Wp (h (0, d) Γ) fun Γ1 => Ws (b Γ1) ⟨I ds, E.rt, E.nx, I ds, E.ex⟩) (hend : ∀ Γ, I [] Γ → E.nx Γ) : ∀ (ds : List D) (Γ : Gm), I ds Γ → Ws (forG h b ds Γ) E
  | [], Γ, i => hend Γ i
  | d :: ds, Γ, i => by
    obtain ⟨Γ1, e1, q⟩ := (hstep d ds Γ i).get
    rw [forG, e1]
    dsimp only
    match b Γ1, q with
    | some (.nx Γ2), q => exact ws_forG I hstep hend ds Γ2 q
    | some (.ct Γ2), q => exact ws_forG I hstep hend ds Γ2 q
    | some (.bk Γ2), q => exact q
    | some (.rt a Γ2), q => exact q
    | some (.ex x Γ2), q => exact q
theorem ws_while {c : FT} {b : FS} (I : Nat → Gm → Prop) (hstep : ∀ n Γ, I n Γ → We (c Γ) (fun t Γ1 => (t = true → Ws (b Γ1) ⟨fun Γ2 => ∃ m, m < n ∧ I m Γ2, E.rt, E.nx, fun Γ2 => ∃ m, m < n ∧ I m Γ2, E.ex⟩) ∧ (t = false → E.nx Γ1)) E.ex) (n : Nat) (Γ : Gm) (i : I n Γ) : Ws (gWhile c b Γ) E := by
  suffices h : ∀ n Γ, I n Γ → ∃ k r, whileN c b k Γ = some r ∧ Ws (some r) E by
    obtain ⟨k, r, e, q⟩ := h n Γ i
    rw [gWhile_of e]
    exact q
  intro n
  induction n using Nat.strongRecOn with
  | ind n ih =>
    intro Γ i
    have q := hstep n Γ i
    cases ec : c Γ with
    | none => rw [ec] at q; exact q.elim
    | some r1 =>
      rw [ec] at q
      cases r1 with
      | ex x Γ1 => exact ⟨1, .ex x Γ1, by rw [whileN, ec], q⟩
      | ok t Γ1 =>
        cases t with
        | false => exact ⟨1, .nx Γ1, by rw [whileN, ec], q.2 rfl⟩
        | true =>
          have q := q.1 rfl
          cases eb : b Γ1 with
          | none => rw [eb] at q; exact q.elim
          | some r2 =>
            rw [eb] at q
            cases r2 with
            | nx Γ2 =>
              obtain ⟨m, hm, im⟩ := q
              obtain ⟨k, r, e, q⟩ := ih m hm Γ2 im
              exact ⟨k + 1, r, by rw [whileN, ec]; dsimp only; rw [eb]; exact e, q⟩
            | ct Γ2 =>
              obtain ⟨m, hm, im⟩ := q
              obtain ⟨k, r, e, q⟩ := ih m hm Γ2 im
              exact ⟨k + 1, r, by rw [whileN, ec]; dsimp only; rw [eb]; exact e, q⟩
            | bk Γ2 => exact ⟨1, .nx Γ2, by rw [whileN, ec]; dsimp only; rw [eb], q⟩
            | rt a Γ2 => exact ⟨1, .rt a Γ2, by rw [whileN, ec]; dsimp only; rw [eb], q⟩
            | ex x Γ2 => exact ⟨1, .ex x Γ2, by rw [whileN, ec]; dsimp only; rw [eb], q⟩
/-! ### calls -/
variable {Qc : Gm → Gm → Prop}
theorem wc_nil (h : Qc [] Γ) : We (cNil Γ) Qc Z := h
theorem wc_val {f : FE} {r : FC} (h : We (f Γ) (fun a Γ1 => We (r Γ1) (fun os Γ2 => Qc (some a :: os) Γ2) Z) Z) : We (cVal f r Γ) Qc Z := we_bind (h.imp fun _ _ h => we_bind h)
theorem wc_io {j : Nat} {a : DK} {r : FC} (e : Γ[j]? = some (some a)) (h : We (r Γ) (fun os Γ2 => Qc (none :: os) Γ2) Z) : We (cIo j r Γ) Qc Z := by
  unfold cIo; rw [e]; exact we_bind h
theorem wc_ck {n : Nat} {f : FC} (h : We (f Γ) (fun os Γ1 => os.length = n ∧ Qc os Γ1) Z) : We (fCk n f Γ) Qc Z := by
  unfold fCk
  match f Γ, h with
  | some (.ok a Γ1), h => dsimp only; rw [if_pos h.1]; exact h.2
  | some (.ex x Γ1), h => exact h
theorem prs_none {n : Nat} : ∀ {ios : List (Option Nat)} {k : Nat}, ios.all (·.isNone) = true → prs n k ios = []
  | [], _, _ => rfl
  | none :: r, k, h => prs_none (ios := r) (by simpa using h)
  | some j :: r, k, h => by simp at h
theorem getAll_map : ∀ {as : List DK}, getAll (as.map some) = some as
  | [] => rfl
  | a :: r => by simp [getAll, getAll_map (as := r)]
theorem Wm.get {m : Option FR} {Q : DK → Gm → Prop} (h : Wm m Q fun _ _ => False) : ∃ a o, m = some (.ret a o) ∧ Q a o := by
  match m, h with
  | some (.ret a o), h => exact ⟨a, o, rfl, h⟩
/-- a call by values alone -/
theorem we_callV {xb : Bool} {m : Mir} {ios : List (Option Nat)} {dds : List DK} {f : FC} (hn : ios.all (·.isNone) = true)
    (h : We (f Γ) (fun os Γ1 => ∃ as : List DK, os = as.map some ∧ Wm (m (as ++ dds)) (fun a o => o.length = as.length + dds.length ∧ Qe a Γ1) (fun x o => xb = true ∧ o.length = as.length + dds.length ∧ Z x Γ1)) Z) : We (fCallM xb m ios dds f Γ) Qe Z := we_bind (h.imp fun os Γ1 ⟨as, e, h⟩ => by
  subst e
  rw [prs_none hn]
  simp only [mvs, List.length_map]
  have e1 : List.take as.length (as.map some ++ Γ1) = as.map some := by
    rw [List.take_append_of_le_length (by simp), List.take_of_length_le (by simp)]
  have e2 : List.drop as.length (as.map some ++ Γ1) = Γ1 := by
    rw [List.drop_append_of_le_length (by simp), List.drop_eq_nil_of_le (by simp)]; rfl
  rw [e1, e2, getAll_map]
  dsimp only
  have rs : ∀ o : Gm, o.length = as.length + dds.length → restore as.length ios dds.length o Γ1 = some Γ1 := fun o l => by
    unfold restore
    rw [if_pos l, prs_none hn]
    simp only [List.map_nil, mvs, Option.map_some]
    rw [List.drop_append_of_le_length (by rw [List.length_take, l]; omega), List.drop_eq_nil_of_le (by rw [List.length_take]; omega)]
    rfl
  match m (as ++ dds), h with
  | some (.ret a o), h => dsimp only; rw [rs o h.1]; exact h.2
  | some (.exn x o), h => dsimp only; rw [if_pos h.1, rs o h.2.1]; exact h.2.2)
/-- a call with one slot handed through, ahead, and one value -/
theorem we_callIo {xb : Bool} {m : Mir} {j : Nat} {f : FE} {w0 : DK} (e0 : Γ[j]? = some (some w0))
    (h : We (f Γ) (fun a Γ1 => ∃ w, Γ1[j]? = some (some w) ∧ Wm (m [w, a]) (fun r o => ∃ w', o = [some w', none] ∧ Qe r (Γ1.set j (some w'))) (fun x o => xb = true ∧ ∃ w', o = [some w', none] ∧ Z x (Γ1.set j (some w')))) Z) :
    We (fCallM xb m [some j, none] [] (fCk 2 (cIo j (cVal f cNil))) Γ) Qe Z := by
  refine we_bind (wc_ck (wc_io e0 (wc_val (h.imp fun a Γ1 ⟨w, ew, h⟩ => wc_nil ⟨rfl, ?_⟩))))
  have hj : j < Γ1.length := by
    have := (List.getElem?_eq_some_iff.mp ew).1
    exact this
  have e1 : mvs (prs 2 0 [some j, none]) (none :: some a :: Γ1) = some (some w :: some a :: Γ1.set j none) := by
    simp [prs, mvs, mv, ew, Nat.add_comm 2 j]
  have e2 : ∀ w' : DK, restore 2 [some j, none] 0 [some w', none] (Γ1.set j none) = some (Γ1.set j (some w')) := fun w' => by
    simp [restore, prs, mvs, mv, Nat.add_comm 2 j, hj]
  show We (match mvs (prs 2 0 [some j, none]) (none :: some a :: Γ1) with
    | none => none
    | some Γ2 => match getAll (Γ2.take 2) with
      | none => none
      | some as => match m (as ++ []) with
        | some (.ret a outs) => (restore 2 [some j, none] 0 outs (Γ2.drop 2)).map fun Γ3 => R.ok a Γ3
        | some (.exn x outs) => if xb = true then (restore 2 [some j, none] 0 outs (Γ2.drop 2)).map fun Γ3 => R.ex x Γ3 else none
        | none => none) Qe Z
  rw [e1]
  dsimp only
  have e3 : getAll (List.take 2 (some w :: some a :: Γ1.set j none)) = some [w, a] := rfl
  rw [e3]
  dsimp only
  rw [List.append_nil]
  match m [w, a], h with
  | some (.ret r o), ⟨w', eo, h⟩ => subst eo; dsimp only; rw [show List.drop 2 (some w :: some a :: Γ1.set j none) = Γ1.set j none from rfl, e2]; exact h
  | some (.exn r o), ⟨hx, w', eo, h⟩ => subst eo; dsimp only; rw [if_pos hx, show List.drop 2 (some w :: some a :: Γ1.set j none) = Γ1.set j none from rfl, e2]; exact h
/-- a def's mirror, by its body -/
theorem wm_of {N : Nat} {io : List Bool} {g : FS} {as : List DK} (h : Ws (g (as.map some ++ List.replicate (N - as.length) none)) ⟨fun Γ => io.length ≤ Γ.length ∧ Qe (9, .non) (outsOf io Γ), fun a Γ => io.length ≤ Γ.length ∧ Qe a (outsOf io Γ), fun _ => False, fun _ => False, fun _ _ => False⟩) : Wm (mirOf false N io g as) Qe Z := by
  unfold mirOf
  match g (as.map some ++ List.replicate (N - as.length) none), h with
  | some (.nx Γ), h => dsimp only; rw [if_pos h.1]; exact h.2
  | some (.rt a Γ), h => dsimp only; rw [if_pos h.1]; exact h.2
/-! ### comprehensions -/
/-- one name walked, plain items, each turn a plain thing made without a trace -/
theorem lcG_map {n v : Nat} {f : FE} {φ : D → D} {Γ0 : Gm} (hv : v < n) (hl : Γ0.length = n) : ∀ (ds : List D) (acc : List D), acc.length + ds.length ≤ LINE → (∀ d ∈ ds, (φ d).imm = true ∧ ∃ k, f (Γ0.set v (some (0, d))) = some (.ok (k, φ d) (Γ0.set v (some (0, d))))) →
    ∀ (k : Nat) (x : Option DK), ∃ y, lcG n [v] (hName (compl n [v]) v) fYes f ds k acc (Γ0.set v x) = some ((k, acc ++ ds.map φ), Γ0.set v y)
  | [], acc, _, _, k, x => ⟨x, by simp [lcG]⟩
  | d :: ds, acc, l, q, k, x => by
    obtain ⟨h1, k', h2⟩ := q d List.mem_cons_self
    have l1 : acc.length < LINE := by simp at l; omega
    have hw : wipeG (Γ0.set v x) [v] = Γ0.set v none := by simp [wipeG]
    have hn : hName (compl n [v]) v (0, d) (Γ0.set v none) = some (Γ0.set v (some (0, d))) := by
      unfold hName
      rw [if_pos ⟨by simp [hl, hv], by simp [compl]⟩]
      simp
    obtain ⟨y, e⟩ := lcG_map hv hl ds (acc ++ [φ d]) (by simp at l ⊢; omega) (fun d' m => q d' (List.mem_cons_of_mem _ m)) k (some (0, d))
    refine ⟨y, ?_⟩
    rw [lcG, hw, hn]
    dsimp only
    rw [if_pos (by simp [hl])]
    dsimp only [fYes]
    rw [h2]
    dsimp only
    rw [if_pos l1, if_pos h1, e]
    simp
theorem we_lcMap {n v : Nat} {fi : FI} {f : FE} {φ : D → D} (h : We (fi Γ) (fun ds Γ1 => Γ1.length = n ∧ v < n ∧ okSlot Γ1[v]? = true ∧ ds.length ≤ LINE ∧ (∀ d ∈ ds, (φ d).imm = true ∧ ∃ k, f (Γ1.set v (some (0, d))) = some (.ok (k, φ d) (Γ1.set v (some (0, d))))) ∧ Qe (9, .lst (ds.map φ)) Γ1) Z) : We (fLc n [v] fi (hName (compl n [v]) v) fYes f Γ) Qe Z := by
  refine we_bind (h.imp fun ds Γ1 ⟨h1, h2, h3, h4, h5, h6⟩ => ?_)
  rw [if_pos ⟨h1, by simp, by simpa using h3⟩]
  obtain ⟨y, e⟩ := lcG_map h2 h1 ds [] (by simpa using h4) h5 8 (Γ1[v]?.join)
  have e0 : Γ1.set v (Γ1[v]?.join) = Γ1 := by
    rw [List.getElem?_eq_getElem (by omega)]
    simp
  rw [e0] at e
  rw [e]
  dsimp only
  have e1 : restG Γ1 (wipeG (Γ1.set v y) [v]) [v] = Γ1 := by
    simp only [wipeG, restG, List.set_set]
    exact e0
  rw [e1]
  exact h6
end
end Rh
/-! Rh19: what is equal; more of what a mirror gives. -/
namespace Rh
open PySem L2
mutual
def D.sh : Nat → D → Bool
  | _, .non => true | _, .bl _ => true | _, .int _ => true
  | _, .str s => PyData.strOk s
  | n + 1, .tup xs => shA n xs
  | n + 1, .lst xs => shA n xs
  | _, _ => false
def shA : Nat → List D → Bool
  | _, [] => true
  | n, d :: r => d.sh n && shA n r
end
mutual
theorem D.sh_py : ∀ (n : Nat) (d : D), d.sh n = true → ∃ p, toPy d = some p ∧ p.canLay0 = true ∧ p.depth ≤ n + 1
  | _, .non, _ => ⟨_, rfl, rfl, by simp [PyData.depth]⟩
  | _, .bl _, _ => ⟨_, rfl, rfl, by simp [PyData.depth]⟩
  | _, .int _, _ => ⟨_, rfl, rfl, by simp [PyData.depth]⟩
  | _, .str _, h => ⟨_, rfl, by simpa [D.sh, PyData.canLay0] using h, by simp [PyData.depth]⟩
  | n + 1, .tup xs, h => by
    obtain ⟨ps, e, h1, h2⟩ := shA_py n xs (by simpa [D.sh] using h)
    exact ⟨.tuple ps, by simp [toPy, e], by simpa [PyData.canLay0] using h1, by simp only [PyData.depth]; omega⟩
  | n + 1, .lst xs, h => by
    obtain ⟨ps, e, h1, h2⟩ := shA_py n xs (by simpa [D.sh] using h)
    exact ⟨.list ps, by simp [toPy, e], by simpa [PyData.canLay0] using h1, by simp only [PyData.depth]; omega⟩
  | 0, .tup xs, h => by simp [D.sh] at h
  | 0, .lst xs, h => by simp [D.sh] at h
  | _, .ref _, h => by simp [D.sh] at h
  | _, .ty _, h => by simp [D.sh] at h
  | _, .dct _ _, h => by simp [D.sh] at h
  | _, .ins _ _ _, h => by simp [D.sh] at h
theorem shA_py : ∀ (n : Nat) (ds : List D), shA n ds = true → ∃ ps, toPyA ds = some ps ∧ PyData.canLayAll0 ps = true ∧ PyData.depthAll ps ≤ n + 1
  | _, [], _ => ⟨[], rfl, rfl, by simp [PyData.depthAll]⟩
  | n, d :: r, h => by
    rw [shA, Bool.and_eq_true] at h
    obtain ⟨p, e, h1, h2⟩ := d.sh_py n h.1
    obtain ⟨ps, e', h1', h2'⟩ := shA_py n r h.2
    exact ⟨p :: ps, by simp [toPyA, e, e'], by simp [PyData.canLayAll0, h1, h1'], by simp only [PyData.depthAll]; omega⟩
end
/-- equal as the language says -/
def eqvD (a b : D) : Bool := match toPy a, toPy b with
  | some p, some q => PyData.eqv p q
  | _, _ => false
def eqvDA (a b : List D) : Bool := match toPyA a, toPyA b with
  | some p, some q => PyData.eqvAll p q
  | _, _ => false
theorem eqD_sh {n m : Nat} {a b : D} (ha : a.sh n = true) (hb : b.sh m = true) (hn : n ≤ 60) (hm : m ≤ 60) : eqD a b = some (eqvD a b) := by
  obtain ⟨p, e, h1, h2⟩ := a.sh_py n ha
  obtain ⟨q, e', h1', h2'⟩ := b.sh_py m hb
  unfold eqD eqvD
  rw [e, e']
  dsimp only
  have s1 : SeqAt.shaped p = true := by unfold SeqAt.shaped; simp [h1]; omega
  have s2 : SeqAt.shaped q = true := by unfold SeqAt.shaped; simp [h1']; omega
  rw [if_pos ⟨s1, s2⟩]
theorem eqvD_lst {xs ys : List D} : eqvD (.lst xs) (.lst ys) = eqvDA xs ys := by
  unfold eqvD eqvDA
  cases e1 : toPyA xs <;> cases e2 : toPyA ys <;> simp [toPy, e1, e2, PyData.eqv]
theorem eqvD_tup {xs ys : List D} : eqvD (.tup xs) (.tup ys) = eqvDA xs ys := by
  unfold eqvD eqvDA
  cases e1 : toPyA xs <;> cases e2 : toPyA ys <;> simp [toPy, e1, e2, PyData.eqv]
theorem eqvDA_cons {x y : D} {xs ys : List D} : eqvDA (x :: xs) (y :: ys) = (eqvD x y && eqvDA xs ys) := by
  unfold eqvD eqvDA
  cases e1 : toPyA xs <;> cases e2 : toPyA ys <;> cases e3 : toPy x <;> cases e4 : toPy y <;> simp [toPyA, e1, e2, e3, e4, PyData.eqvAll]
theorem eqvDA_nil : eqvDA [] [] = true := rfl
theorem eqvD_int {i j : Int} : eqvD (.int i) (.int j) = decide (i = j) := rfl
theorem eqvD_str {i j : Str} : eqvD (.str i) (.str j) = (i == j) := rfl
theorem eqvD_bl {i j : Bool} : eqvD (.bl i) (.bl j) = (i == j) := rfl
theorem eqvDA_nil1 {y : D} {ys : List D} : eqvDA [] (y :: ys) = false := by
  unfold eqvDA
  cases e : toPyA (y :: ys) with
  | none => rfl
  | some ps =>
    cases ps with
    | nil => simp only [toPyA] at e; split at e <;> cases e
    | cons => rfl
theorem eqvDA_nil2 {y : D} {ys : List D} : eqvDA (y :: ys) [] = false := by
  unfold eqvDA
  cases e : toPyA (y :: ys) with
  | none => rfl
  | some ps =>
    cases ps with
    | nil => simp only [toPyA] at e; split at e <;> cases e
    | cons => rfl
theorem shA_int {n : Nat} : ∀ {is : List Int}, shA n (is.map .int) = true
  | [] => rfl
  | i :: r => by rw [List.map_cons, shA, shA_int (is := r)]; cases n <;> rfl
theorem eqvDA_int : ∀ {is js : List Int}, eqvDA (is.map .int) (js.map .int) = decide (is = js)
  | [], [] => rfl
  | i :: r, j :: q => by rw [List.map_cons, List.map_cons, eqvDA_cons, eqvD_int, eqvDA_int (is := r)]; simp [Bool.decide_and]
  | [], _ :: _ => by rw [List.map_cons, List.map_nil, eqvDA_nil1]; rfl
  | _ :: _, [] => by rw [List.map_cons, List.map_nil, eqvDA_nil2]; rfl
section
variable {α β : Type} {Γ Γ1 : Gm} {Z : Xn → Gm → Prop} {E : SQ} {Qe : DK → Gm → Prop} {Qp : DK → Prop} {Qd : D → Prop}
theorem eqA_sh {n m : Nat} {a b : D} (ha : a.sh n = true) (hb : b.sh m = true) (hn : n ≤ 60) (hm : m ≤ 60) : eqA a b = some (eqvD a b) := by
  unfold eqA
  split
  · rename_i c e
    cases a <;> cases b <;> simp [strE] at e <;> subst e <;> simp [eqvD, toPy, PyData.eqv, Bool.beq_eq_decide_eq]
  · exact eqD_sh ha hb hn hm
theorem wd_eqS {i j : Str} (h : Qd (.bl (decide (i = j)))) : Wp (gEq [.str i, .str j]) Qd := h
theorem wd_neS {i j : Str} (h : Qd (.bl (!decide (i = j)))) : Wp (gNe [.str i, .str j]) Qd := h
theorem wd_eqE {a b : D} {c : Bool} (e : strE a b = some c) (h : Qd (.bl c)) : Wp (gEq [a, b]) Qd := by
  unfold gEq eqA; dsimp only; rw [e]; exact h
theorem wd_neE {a b : D} {c : Bool} (e : strE a b = some c) (h : Qd (.bl (!c))) : Wp (gNe [a, b]) Qd := by
  unfold gNe eqA; dsimp only; rw [e]; exact h
theorem wd_eq {n m : Nat} {a b : D} (ha : a.sh n = true) (hb : b.sh m = true) (hn : n ≤ 60) (hm : m ≤ 60) (h : Qd (.bl (eqvD a b))) : Wp (gEq [a, b]) Qd := by
  unfold gEq; dsimp only; rw [eqA_sh ha hb hn hm]; exact h
theorem wd_ne {n m : Nat} {a b : D} (ha : a.sh n = true) (hb : b.sh m = true) (hn : n ≤ 60) (hm : m ≤ 60) (h : Qd (.bl (!eqvD a b))) : Wp (gNe [a, b]) Qd := by
  unfold gNe; dsimp only; rw [eqA_sh ha hb hn hm]; exact h
theorem wp_at {ds : List D} {i : Int} {d : D} (e : atI ds i = some d) (h : Qd d) : Wp (atI ds i) Qd := by rw [e]; exact h
/-- an item of a list of numbers -/
theorem wat_int {is : List Int} {ds : List D} {i : Int} (P : Int → Prop) (e : ds = is.map .int) (h0 : 0 ≤ i) (h1 : i < is.length) (p : ∀ g ∈ is, P g) (q : ∀ g, P g → Qd (.int g)) : Wp (atI ds i) Qd := by
  subst e
  unfold atI ixN
  rw [if_pos h0, if_pos (by simpa using h1)]
  have hl : i.toNat < is.length := by omega
  simp only [Option.bind_some, List.getElem?_map, List.getElem?_eq_getElem hl, Option.map_some]
  exact q _ (p _ (List.getElem_mem hl))
/-- .. of any -/
theorem wat_mem {ds : List D} {i : Int} (h0 : 0 ≤ i) (h1 : i < ds.length) (q : ∀ d ∈ ds, Qd d) : Wp (atI ds i) Qd := by
  unfold atI ixN
  rw [if_pos h0, if_pos (by simpa using h1)]
  have hl : i.toNat < ds.length := by omega
  simp only [Option.bind_some, List.getElem?_eq_getElem hl]
  exact q _ (List.getElem_mem hl)
variable {Qo : List D × DK → Prop}
theorem wo_pop0 {k j : Nat} {d : D} {ds : List D} (h : Qo (ds, (k, d))) : Wp (opPopAt k (d :: ds) [(j, .int 0)]) Qo := by
  have e : ixN (d :: ds).length 0 = some 0 := by
    unfold ixN
    rw [if_pos (by decide), if_pos (by simp)]
    rfl
  unfold opPopAt
  dsimp only
  rw [if_pos (by decide), e]
  exact h
theorem wo_app {k : Nat} {a : DK} {ds : List D} (c : ds.length < LINE) (h : Qo (ds ++ [a.2], (9, .non))) : Wp (opAppend k ds [a]) Qo := by
  unfold opAppend; dsimp only; rw [if_pos c]; exact h
theorem wo_pop {k : Nat} {d : D} {ds : List D} (h : Qo (ds, (k, d))) : Wp (opPop k (ds ++ [d]) []) Qo := by
  unfold opPop; simpa [Wp] using h
theorem bits_lt {i : Int} {n : Nat} (h : i.natAbs < 2 ^ n) : Builtin.Int.intBits i ≤ n := by
  unfold Builtin.Int.intBits
  split
  · omega
  · rename_i h0
    have h0 : i.natAbs ≠ 0 := by simpa using h0
    have := (Nat.log2_lt h0).mpr h
    omega
theorem lt_bits {i : Int} {n : Nat} (h : Builtin.Int.intBits i ≤ n) : i.natAbs < 2 ^ n := by
  unfold Builtin.Int.intBits at h
  split at h
  · rename_i h0
    have h0 : i = 0 := by simpa using h0
    subst h0
    exact Nat.pos_of_ne_zero (by simp)
  · rename_i h0
    have h0 : i.natAbs ≠ 0 := by simpa using h0
    exact (Nat.log2_lt h0).mp (by omega)
theorem log_ok {i : Int} {n : Nat} (h : i.natAbs < 2 ^ (n + 1)) : i.natAbs.log2 ≤ n := by
  by_cases h0 : i.natAbs = 0
  · rw [h0]; simp
  · have := (Nat.log2_lt h0).mpr h
    omega
theorem mul_side {i j : Int} (h : i.natAbs < 2 ^ 200) (h' : j.natAbs < 2 ^ 200) : i.natAbs.log2 + j.natAbs.log2 < 1000000 := by
  have := log_ok (n := 199) h
  have := log_ok (n := 199) h'
  omega
theorem log_side {i : Int} (h : i.natAbs < 2 ^ 200) : i.natAbs.log2 < 9000 := by
  have := log_ok (n := 199) h
  omega
theorem pow_side {i j : Int} (h : i.natAbs < 2 ^ 200) (h0 : 0 ≤ j) (h1 : j ≤ 1000) : (Builtin.Int.intBits i : Int) * j ≤ 2 ^ 27 := by
  have := bits_lt h
  refine Int.le_trans (Int.mul_le_mul_of_nonneg_right (b := 200) (by omega) h0) ?_
  omega
theorem minK_imm : ∀ {as : List DK}, immA (as.map (·.2)) = true → minK as = 8
  | [], _ => rfl
  | (k, d) :: r, h => by
    rw [List.map_cons, immA, Bool.and_eq_true] at h
    rw [minK, if_pos h.1]
    exact minK_imm h.2
theorem we_lstI {as : List DK} (c : as.length ≤ LINE) (i : immA (as.map (·.2)) = true) (h : Qe (9, .lst (as.map (·.2))) Γ) : We (gLst as Γ) Qe Z := by
  refine we_lst c ?_
  rw [minK_imm i]
  exact h
theorem we_tupI {as : List DK} (c : as.length ≤ LINE) (i : immA (as.map (·.2)) = true) (h : Qe (8, .tup (as.map (·.2))) Γ) : We (gTup as Γ) Qe Z := by
  refine we_tup c ?_
  rw [minK_imm i]
  exact h
theorem we_catI {k j : Nat} {a b : List D} (c : (a.length + b.length).ble LINE = true) (i : immA a = true) (i2 : immA b = true) (h : Qe (9, .lst (a ++ b)) Γ) : We (gCat [(k, .lst a), (j, .lst b)] Γ) Qe Z := by
  unfold gCat
  dsimp only
  rw [if_pos (Nat.le_of_ble_eq_true c), if_pos ⟨i, i2⟩]
  exact h
theorem we_cat {k j : Nat} {a b : List D} (c : a.length + b.length ≤ LINE) (i : immA a = true → immA b = true → False) (h : Qe (min k j - 1 + 1, .lst (a ++ b)) Γ) : We (gCat [(k, .lst a), (j, .lst b)] Γ) Qe Z := by
  unfold gCat
  dsimp only
  rw [if_pos c, if_neg fun z => i z.1 z.2]
  exact h
theorem ws_cut {m : Option S} (P : Gm → Prop) (h : Ws m ⟨P, E.rt, E.bk, E.ct, E.ex⟩) (q : ∀ Γ, P Γ → E.nx Γ) : Ws m E := h.imp q (fun _ _ z => z) (fun _ z => z) (fun _ z => z) (fun _ _ z => z)
theorem wm_imp {m : Option FR} {Q Q' : DK → Gm → Prop} {Z' : Xn → Gm → Prop} (h : Wm m Q Z) (q : ∀ a o, Q a o → Q' a o) (z : ∀ x o, Z x o → Z' x o) : Wm m Q' Z' := by
  match m, h with
  | some (.ret a o), h => exact q _ _ h
  | some (.exn x o), h => exact z _ _ h
/-- a power of a number of few signs -/
theorem wd_powN (n : Nat) {i j : Int} (h : i.natAbs < 2 ^ n) (h0 : 0 ≤ j) (h2 : (n : Int) * j ≤ 2 ^ 27) (q : Qd (.int (i ^ j.toNat))) : Wp (gPow [.int i, .int j]) Qd :=
  wd_pow h0 (Int.le_trans (Int.mul_le_mul_of_nonneg_right (by have := bits_lt h; omega) h0) h2) q
theorem wd_mulN (n m : Nat) {i j : Int} (h : i.natAbs < 2 ^ (n + 1)) (h0 : j.natAbs < 2 ^ (m + 1)) (h2 : n + m < 1000000) (q : Qd (.int (i * j))) : Wp (gMul [.int i, .int j]) Qd :=
  wd_mul (by have := log_ok h; have := log_ok h0; omega) q
theorem wd_divN (n : Nat) {i j : Int} (h : 0 < j) (h0 : j.natAbs < 2 ^ (n + 1)) (h2 : n < 9000) (q : Qd (.int (i / j))) : Wp (gDiv [.int i, .int j]) Qd :=
  wd_div h (Nat.lt_of_le_of_lt (log_ok h0) h2) q
end
end Rh
/-! Rh20: texts: str(..), methods. -/
namespace Rh
open PySem L2
section
variable {K : PySem.W.Frag} {W : WX} {fx : List Nat} {Γ Γ' : Gm} {σ σ' : L2.St} {H Sh H' Sh' : Hp} {O O' O2 : List Addr}
def gStr : List D → Option D
  | [.int i] => if i.natAbs.log2 < 1920 then some (.str (toString i)) else none
  | [.str s] => some (.str s)
  | _ => none
def rStrA : List V → Hp → VK → Prop := fun xs H Q => (∃ i : Int, xs = [.int i] ∧ i.natAbs.log2 < 1920 ∧ Q (.str (toString i)) H) ∨ (∃ a, xs = [.str a] ∧ Q (.str a) H)
theorem call_strA {X : Cx} : CallR X (.type "str") rStrA := call_str_int.or SkE.call_str_str
theorem CallP.strA : CallP K rStrA gStr := by
  intro ds c e vs H Sh x q
  unfold gStr at e
  split at e
  · split at e
    · rename_i hi
      obtain ⟨v, _, _, rfl, h1⟩ := q.one
      cases h1
      cases e
      exact ⟨_, rfl, fun Q z => .inl ⟨_, rfl, hi, z⟩⟩
    · cases e
  · obtain ⟨v, _, _, rfl, h1⟩ := q.one
    cases h1
    cases e
    exact ⟨_, rfl, fun Q z => .inr ⟨_, rfl, z⟩⟩
  · cases e
/-- a text's method of one argument -/
def fM1 (g : List D → Option D) (p : FP) (f : FE) : FE := fun Γ => match p Γ with
  | some (_, .str a) => R.bind (f Γ) fun b Γ1 => match g [.str a, b.2] with
    | some c => some (.ok (9, c) Γ1)
    | none => none
  | _ => none
abbrev rM1 (r : V → List V → Hp → VK → Prop) : List V → Hp → VK → Prop := fun vs H Q => match vs with
  | [x, y] => r x [y] H Q
  | _ => False
theorem SndE.m1 {tp te : TE} {p : FP} {f : FE} {r : V → List V → Hp → VK → Prop} {g : List D → Option D} (h : SndP K tp p) (hf : SndE K W te f) (c : CallP K (rM1 r) g) : SndE K W (tM1 r tp te) (fM1 g p f) := by
  intro Γ res e σ H Sh O G Q q
  unfold fM1 R.bind at e
  split at e
  · rename_i k a ea
    obtain ⟨v, fp, rp, run⟩ := h Γ _ ea σ H Sh O G
    cases rp
    refine run _ ⟨⟨a, rfl⟩, ?_⟩
    split at e
    · rename_i b Γ1 eb
      dsimp only at e
      refine hf Γ _ eb σ H Sh O G _ fun y H1 Sh1 O1 e1 G1 => ?_
      obtain ⟨f', g', rfl, hb, G2, nd, fr⟩ := Rps.pop G1
      split at e
      · rename_i d ed
        cases e
        obtain ⟨w, sv, run2⟩ := c _ _ ed [.str a, y] H1 Sh1 G1.ex ⟨⟨9, _, .str⟩, ⟨_, _, hb⟩, trivial⟩
        exact run2 Q (q w _ _ _ (e1.sub fun a m => List.mem_append_right _ m) (G2.push0 (D.sv_rp sv 9)))
      · cases e
    · rename_i x Γ1 eb
      cases e
      exact hf Γ _ eb σ H Sh O G _ q
    · cases e
  · cases e
def strsOf : List D → Option (List Str)
  | [] => some []
  | .str s :: r => (strsOf r).map (s :: ·)
  | _ :: _ => none
theorem strsOf_map : ∀ {ys : List Str}, strsOf (ys.map .str) = some ys
  | [] => rfl
  | y :: r => by rw [List.map_cons, strsOf, strsOf_map (ys := r)]; rfl
theorem strsOf_ok : ∀ {ds : List D} {ys : List Str} {k : Nat} {vs : List V} {fp : List Addr}, strsOf ds = some ys → RpA K Sh H k ds vs fp → vs = ys.map V.str
  | [], ys, k, vs, fp, e, h => by
    cases e
    cases h
    rfl
  | d :: r, ys, k, vs, fp, e, h => by
    cases h with
    | cons h1 t =>
      cases d <;> simp [strsOf] at e
      obtain ⟨ys', e1, rfl⟩ := e
      cases h1
      rw [strsOf_ok e1 t]
      rfl
def gJoin : List D → Option D
  | [.str a, .lst ds] => match strsOf ds with
    | some ys => if (ys.map (·.length)).sum + ys.length * a.length ≤ 16777216 then some (.str (Txt.join a ys)) else none
    | none => none
  | [.str a, .tup ds] => match strsOf ds with
    | some ys => if (ys.map (·.length)).sum + ys.length * a.length ≤ 16777216 then some (.str (Txt.join a ys)) else none
    | none => none
  | _ => none
abbrev rJoinA (K : PySem.W.Frag) : V → List V → Hp → VK → Prop := fun x xs H Q => ∃ a p, ∃ ys : List Str, x = .str a ∧ xs = [.ref p] ∧ (SqL K H p (ys.map V.str) ∨ SqT K H p (ys.map V.str)) ∧
      (ys.map (·.length)).sum + ys.length * a.length ≤ 16777216 ∧ Q (.str (Txt.join a ys)) H
theorem tup_inv {m : Nat} {ds : List D} {v : V} {fp : List Addr} (ex : Ex Sh H) (h : Rp K Sh H m (.tup ds) v fp) : ∃ a vs, v = .ref a ∧ SqT K H a vs ∧ RpA K Sh H m ds vs fp := by
  cases h with
  | tup h t => exact ⟨_, _, rfl, ex.t h, t⟩
theorem CallP.join : CallP K (rM1 (rJoinA K)) gJoin := by
  intro ds c e vs H Sh x q
  unfold gJoin at e
  split at e
  · rename_i a ds'
    obtain ⟨v, w, _, _, _, _, rfl, h1, h2⟩ := q.two
    cases h1
    obtain ⟨p, xs, gp, rfl, sq, t, _⟩ := lst_inv x h2
    split at e
    · rename_i ys ey
      split at e
      · rename_i hl
        cases e
        exact ⟨_, rfl, fun Q z => ⟨a, p, ys, rfl, rfl, .inl (strsOf_ok ey t ▸ sq), hl, z⟩⟩
      · cases e
    · cases e
  · rename_i a ds'
    obtain ⟨v, w, _, _, _, _, rfl, h1, h2⟩ := q.two
    cases h1
    obtain ⟨p, xs, rfl, sq, t⟩ := tup_inv x h2
    split at e
    · rename_i ys ey
      split at e
      · rename_i hl
        cases e
        exact ⟨_, rfl, fun Q z => ⟨a, p, ys, rfl, rfl, .inr (strsOf_ok ey t ▸ sq), hl, z⟩⟩
      · cases e
    · cases e
  · cases e
end
section
variable {X : Cx} {W : WX} {o e : Expr} {pos apos : Pos} {po : FP} {fe : FE}
theorem pv_join (ho : PP X o po) (he : PV X W e fe) (hs : starEach [e] X.env = [(false, eval e X.env)] := by rfl) (hbase : attributeBase o "join" X.env (eval o X.env) = eval o X.env := by rfl) (hline : (apos.endLine == pos.line) = true := by rfl) : PV X W (.Call (.Attribute o "join" apos) [e] [] pos) (fM1 gJoin po fe) :=
  let ⟨_, h1, s1⟩ := ho; let ⟨_, h2, s2⟩ := he; ⟨_, pe_join h1 h2 hs hbase hline, SndE.m1 s1 s2 CallP.join⟩
end
section
variable {Γ Γ1 : Gm} {Z : Xn → Gm → Prop} {E : SQ} {Qe : DK → Gm → Prop} {Qd : D → Prop}
theorem wd_strI {i : Int} (c : i.natAbs.log2 < 1920) (h : Qd (.str (toString i))) : Wp (gStr [.int i]) Qd := by
  unfold gStr; dsimp only; rw [if_pos c]; exact h
theorem wd_strS {i : Str} (h : Qd (.str i)) : Wp (gStr [.str i]) Qd := h
theorem we_m1 {g : List D → Option D} {p : FP} {f : FE} (h : Wp (p Γ) fun a => ∃ k s, a = (k, .str s) ∧ We (f Γ) (fun b Γ1 => Wp (g [.str s, b.2]) fun d => Qe (9, d) Γ1) Z) : We (fM1 g p f Γ) Qe Z := by
  unfold fM1
  match p Γ, h with
  | some a, ⟨k, s, e, h⟩ =>
    subst e
    exact we_bind (h.imp fun b Γ1 h => by
      split
      · rename_i c ec
        rw [ec] at h
        exact h
      · rename_i ec
        rw [ec] at h
        exact h)
theorem wd_joinL {a : Str} {ds : List D} (ys : List Str) (e : ds = ys.map .str) (c : (ys.map (·.length)).sum + ys.length * a.length ≤ 16777216) (h : Qd (.str (Txt.join a ys))) : Wp (gJoin [.str a, .lst ds]) Qd := by
  subst e
  unfold gJoin
  dsimp only
  rw [strsOf_map]
  dsimp only
  rw [if_pos c]
  exact h
/-- an item of a list of texts -/
theorem wat_str {is : List Str} {ds : List D} {i : Int} (P : Str → Prop) (e : ds = is.map .str) (h0 : 0 ≤ i) (h1 : i < is.length) (p : ∀ g ∈ is, P g) (q : ∀ g, P g → Qd (.str g)) : Wp (atI ds i) Qd := by
  subst e
  unfold atI ixN
  rw [if_pos h0, if_pos (by simpa using h1)]
  have hl : i.toNat < is.length := by omega
  simp only [Option.bind_some, List.getElem?_map, List.getElem?_eq_getElem hl, Option.map_some]
  exact q _ (p _ (List.getElem_mem hl))
/-- a call with one slot handed through, ahead, and values behind -/
theorem we_callIoN {xb : Bool} {m : Mir} {j n : Nat} {ios : List (Option Nat)} {f : FC} {w0 : DK} (hn : ios.all (·.isNone) = true) (e0 : Γ[j]? = some (some w0))
    (h : We (f Γ) (fun os Γ1 => ∃ (as : List DK) (w : DK), os = as.map some ∧ as.length + 1 = n ∧ Γ1[j]? = some (some w) ∧ Wm (m (w :: as)) (fun r o => ∃ w', o = some w' :: List.replicate as.length none ∧ Qe r (Γ1.set j (some w'))) (fun x o => xb = true ∧ ∃ w', o = some w' :: List.replicate as.length none ∧ Z x (Γ1.set j (some w')))) Z) :
    We (fCallM xb m (some j :: ios) [] (fCk n (cIo j f)) Γ) Qe Z := by
  refine we_bind (wc_ck (wc_io e0 (h.imp fun os Γ1 ⟨as, w, eo, en, ew, hm⟩ => ⟨by rw [eo, List.length_cons, List.length_map]; exact en, ?_⟩)))
  subst eo en
  have hj : j < Γ1.length := (List.getElem?_eq_some_iff.mp ew).1
  have pr : prs (as.length + 1) 0 (some j :: ios) = [(0, as.length + 1 + j)] := by rw [prs, prs_none hn]
  have gt : ∀ (x : Option DK) (Γ2 : Gm) (l : Gm), l.length = as.length → (x :: (l ++ Γ2))[as.length + 1 + j]? = Γ2[j]? := fun x Γ2 l hl => by
    rw [show as.length + 1 + j = (as.length + j) + 1 by omega, List.getElem?_cons_succ, List.getElem?_append_right (by omega), hl]
    congr 1
    omega
  have st : ∀ (x y : Option DK) (Γ2 : Gm) (l : Gm), l.length = as.length → (x :: (l ++ Γ2)).set (as.length + 1 + j) y = x :: (l ++ Γ2.set j y) := fun x y Γ2 l hl => by
    rw [show as.length + 1 + j = (as.length + j) + 1 by omega, List.set_cons_succ, List.set_append_right _ _ (by omega), hl]
    congr 3
    omega
  have e1 : mvs (prs (as.length + 1) 0 (some j :: ios)) (none :: (as.map some ++ Γ1)) = some (some w :: (as.map some ++ Γ1.set j none)) := by
    rw [pr, mvs, mv, gt _ _ _ (by simp), ew]
    simp only [List.getElem?_cons_zero, st _ _ _ _ (List.length_map (as := as) some), List.set_cons_zero, mvs]
  have e2 : ∀ w' : DK, restore (as.length + 1) (some j :: ios) 0 (some w' :: List.replicate as.length none) (Γ1.set j none) = some (Γ1.set j (some w')) := fun w' => by
    unfold restore
    rw [if_pos (by simp), pr, List.take_of_length_le (by simp)]
    simp only [List.map_cons, List.map_nil, mvs, mv, List.cons_append, List.getElem?_cons_zero, gt _ _ _ (List.length_replicate (n := as.length) (a := (none : Option DK)))]
    have g2 : (Γ1.set j none)[j]? = some none := by simp [hj]
    rw [g2]
    simp only [List.set_cons_zero, st _ _ _ _ (List.length_replicate (n := as.length) (a := (none : Option DK))), Option.map_some, List.set_set]
    rw [List.drop_succ_cons, List.drop_append_of_le_length (by simp), List.drop_eq_nil_of_le (by simp)]
    rfl
  have e3 : getAll (List.take (as.length + 1) (some w :: (as.map some ++ Γ1.set j none))) = some (w :: as) := by
    rw [List.take_succ_cons, List.take_append_of_le_length (by simp), List.take_of_length_le (by simp)]
    exact getAll_map (as := w :: as)
  have e4 : List.drop (as.length + 1) (some w :: (as.map some ++ Γ1.set j none)) = Γ1.set j none := by
    rw [List.drop_succ_cons, List.drop_append_of_le_length (by simp), List.drop_eq_nil_of_le (by simp)]
    rfl
  simp only [List.length_cons, List.length_map, List.cons_append, List.length_nil, List.append_nil]
  rw [e1]
  simp only [e3, e4]
  match m (w :: as), hm with
  | some (.ret r o), ⟨w', eo, h⟩ => subst eo; simp only [e2]; exact h
  | some (.exn r o), ⟨hx, w', eo, h⟩ => subst eo; simp only [e2, if_pos hx]; exact h
end
end Rh
namespace Rh
open PySem L2
def topS (i : Nat) : Stmt := PySem.Challenge.pw_ringhall_k76_events_written.main.body.getD i (.Pass ⟨0, 0, 0, 0⟩)
/-- what the top leaves of names -/
structure Txt (mg : Str → Option Value) : Prop where
  n_abs : mg "abs" = none
  n_len : mg "len" = none
  n_max : mg "max" = none
  n_min : mg "min" = none
  n_range : mg "range" = none
  n_str : mg "str" = none
abbrev s_event_text : Stmt := topS 1
abbrev N_event_text : List Str := ["event", "word"]
theorem sc_event_text : FnScope ["event", "word"] ["event"] (defScope s_event_text) := ⟨rfl, rfl, rfl, by decide +kernel, rfl, by decide +kernel, by decide +kernel⟩
noncomputable def l1_event_text : FE :=
  (fIf (fTest (fP (p2 gIsN (pName 1) (fun _ => some (9, .non))))) (fP (fun _ => some (9, .str "-"))) (fP (pCall gStr (pCons (pName 1) pNil))))
noncomputable def b_event_text : FS :=
  (gRet (fM1 gJoin (fun _ => some (9, .str " ")) (fLc 2 [1] (fItT (fP (pName 0))) (hName (compl 2 [1]) 1) fYes l1_event_text)))
noncomputable def m_event_text : Mir := mirOf false 2 [false] b_event_text
set_option maxHeartbeats 8000000 in
theorem ok_event_text {P : Program} {w : World} {K : PySem.W.Frag} {mg : Str → Option Value} {base : Heap} (T : Txt mg) {f : Addr} {fd : FuncData} (F : Fun K "event_text" "event_text" s_event_text f fd) :
    FnOk P w K mg base CX0 1 f fd ["event"] (spM K 1 m_event_text) := okM (N := ["event", "word"]) (g := b_event_text) (io := [false]) F sc_event_text rfl fun cdv A outer s H E hr =>
    (ss_1 (sv_ret (pv_join pp_str (pv_lc (n := 2) N_event_text (defScope s_event_text) [("word", 1)] rfl sc_event_text.nd (iv_tup (pv_pp (pp_name 0))) (by decide +kernel) (fun _ _ _ _ _ => (gv_name 1 sc_event_text.nd)) (fun _ _ _ _ _ => ts_n) (fun _ _ _ _ _ => (pv_if (tp_cmp op_isN CallP.isN (pp_name 1) pp_non (nomark _)) (pv_pp pp_str) (pv_pp (pp_ty call_strA CallP.strA T.n_str (by decide +kernel) (pq_c (pp_name 1) pq_nil)))))))))
abbrev s_law_tape : Stmt := topS 3
abbrev N_law_tape : List Str := ["script", "start", "cell"]
theorem sc_law_tape : FnScope ["script", "start", "cell"] ["script", "start"] (defScope s_law_tape) := ⟨rfl, rfl, rfl, by decide +kernel, rfl, by decide +kernel, by decide +kernel⟩
noncomputable def b_law_tape : FS :=
  (gSeq (gAsg (fP (fun _ => some (9, .int 0))) (hName [] 2))
  (gSeq (gIfS (fTest (fP (p2 (gCmp fun i j => decide (i < j)) (pName 1) (pCall gLen (pCons (pName 0) pNil))))) (gAsg (fP (pCall gAbs (pCons (pIx (pName 0) (pName 1)) pNil))) (hName [] 2)) gNx)
  (gRet (fCallS gLst (fCons (fP (pName 2)) (fCons (fP (p2 gAdd (p2 gMod (p2 gAdd (p2 gMul (pName 1) (fun _ => some (9, .int 7919))) (pName 2)) (fun _ => some (9, .int 998244353))) (fun _ => some (9, .int 1)))) fNil))))))
noncomputable def m_law_tape : Mir := mirOf false 3 [false, false] b_law_tape
set_option maxHeartbeats 8000000 in
theorem ok_law_tape {P : Program} {w : World} {K : PySem.W.Frag} {mg : Str → Option Value} {base : Heap} (T : Txt mg) {f : Addr} {fd : FuncData} (F : Fun K "_law_tape" "_law_tape" s_law_tape f fd) :
    FnOk P w K mg base CX0 1 f fd ["script", "start"] (spM K 2 m_law_tape) := okM (N := ["script", "start", "cell"]) (g := b_law_tape) (io := [false, false]) F sc_law_tape rfl fun cdv A outer s H E hr =>
    (ss_c (sv_set 2 sc_law_tape.nd (pv_pp pp_int))
    (ss_c (sv_if (tp_cmp op_lt CallP.cmp (pp_name 1) (pp_bi call_len CallP.len T.n_len PySem.boot_len (pq_c (pp_name 0) pq_nil)) (nomark _)) (ss_1 (sv_set 2 sc_law_tape.nd (pv_pp (pp_bi call_abs CallP.abs T.n_abs (by decide +kernel) (pq_c (pp_ix (pp_name 0) (pp_name 1)) pq_nil))))) ss_n)
    (ss_1 (sv_ret (pv_lst (pa_c (pv_pp (pp_name 2)) (pa_c (pv_pp (pp_add (pp_mod (pp_add (pp_mul (pp_name 1) pp_int) (pp_name 2)) pp_int) pp_int)) pa_n)))))))
abbrev s_law_digit : Stmt := topS 4
abbrev N_law_digit : List Str := ["tape", "many", "found", "more"]
theorem sc_law_digit : FnScope ["tape", "many", "found", "more"] ["tape", "many"] (defScope s_law_digit) := ⟨rfl, rfl, rfl, by decide +kernel, rfl, by decide +kernel, by decide +kernel⟩
noncomputable def b_law_digit : FS :=
  (gSeq (gIfS (fTest (fP (p2 (gCmp fun i j => decide (j < i)) (pIx (pName 0) (fun _ => some (9, .int 0))) (fun _ => some (9, .int 0))))) (gSeq (gAsg (fP (p2 gMod (pIx (pName 0) (fun _ => some (9, .int 0))) (pName 1))) (hName [0] 2))
  (gSeq (gAsg (fP (p2 gDiv (pIx (pName 0) (fun _ => some (9, .int 0))) (pName 1))) (hSub [0] 0 lName (fun _ => some (9, .int 0))))
  (gRet (fP (pName 2))))) gNx)
  (gSeq (gAsg (fP (p2 gMod (p2 gAdd (p2 gMul (pIx (pName 0) (fun _ => some (9, .int 1))) (fun _ => some (9, .int 48271))) (fun _ => some (9, .int 11))) (fun _ => some (9, .int 2147483647)))) (hSub [0] 0 lName (fun _ => some (9, .int 1))))
  (gSeq (gAsg (fP (p2 gMod (p2 gMul (pIx (pName 0) (fun _ => some (9, .int 1))) (fun _ => some (9, .int 40692))) (fun _ => some (9, .int 2147483399)))) (hName [0] 3))
  (gRet (fP (p2 gMod (p2 gAdd (p2 gMul (p2 gMod (p2 gMul (pIx (pName 0) (fun _ => some (9, .int 1))) (pIx (pName 0) (fun _ => some (9, .int 1)))) (fun _ => some (9, .int 2147483629))) (fun _ => some (9, .int 2147483399))) (pName 3)) (pName 1)))))))
noncomputable def m_law_digit : Mir := mirOf false 4 [true, false] b_law_digit
set_option maxHeartbeats 8000000 in
theorem ok_law_digit {P : Program} {w : World} {K : PySem.W.Frag} {mg : Str → Option Value} {base : Heap} (T : Txt mg) {f : Addr} {fd : FuncData} (F : Fun K "_law_digit" "_law_digit" s_law_digit f fd) :
    FnOk P w K mg base CX0 1 f fd ["tape", "many"] (spM K 2 m_law_digit) := okM (N := ["tape", "many", "found", "more"]) (g := b_law_digit) (io := [true, false]) F sc_law_digit rfl fun cdv A outer s H E hr =>
    (ss_c (sv_if (tp_cmp op_gt CallP.cmp (pp_ix (pp_name 0) pp_int) pp_int (nomark _)) (ss_c (sv_set 2 sc_law_digit.nd (pv_pp (pp_mod (pp_ix (pp_name 0) pp_int) (pp_name 1))))
    (ss_c (sv_asg (pv_pp (pp_div (pp_ix (pp_name 0) pp_int) (pp_name 1))) (gv_sub (lv_name 0) pp_int))
    (ss_1 (sv_ret (pv_pp (pp_name 2)))))) ss_n)
    (ss_c (sv_asg (pv_pp (pp_mod (pp_add (pp_mul (pp_ix (pp_name 0) pp_int) pp_int) pp_int) pp_int)) (gv_sub (lv_name 0) pp_int))
    (ss_c (sv_set 3 sc_law_digit.nd (pv_pp (pp_mod (pp_mul (pp_ix (pp_name 0) pp_int) pp_int) pp_int)))
    (ss_1 (sv_ret (pv_pp (pp_mod (pp_add (pp_mul (pp_mod (pp_mul (pp_ix (pp_name 0) pp_int) (pp_ix (pp_name 0) pp_int)) pp_int) pp_int) (pp_name 3)) (pp_name 1))))))))
abbrev s_law_event : Stmt := topS 5
abbrev N_law_event : List Str := ["tape", "number", "other", "amount", "price", "thing", "word", "some"]
theorem sc_law_event : FnScope ["tape", "number", "other", "amount", "price", "thing", "word", "some"] ["tape"] (defScope s_law_event) := ⟨rfl, rfl, rfl, by decide +kernel, rfl, by decide +kernel, by decide +kernel⟩
noncomputable def b_law_event : FS :=
  (gSeq (gPar [0] 1 2 (fCons (fCallM false m_law_digit [some 0, none] [] (fCk 2 (cIo 0 (cVal (fP (fun _ => some (9, .int 1000))) cNil)))) (fCons (fCallM false m_law_digit [some 0, none] [] (fCk 2 (cIo 0 (cVal (fP (fun _ => some (9, .int 1000))) cNil)))) fNil)))
  (gSeq (gPar [0] 3 4 (fCons (f2 gAdd (fP (fun _ => some (9, .int 1))) (fCallM false m_law_digit [some 0, none] [] (fCk 2 (cIo 0 (cVal (fP (p2 gPow (fun _ => some (9, .int 10)) (fun _ => some (9, .int 9)))) cNil))))) (fCons (f2 gAdd (fP (fun _ => some (9, .int 1))) (fCallM false m_law_digit [some 0, none] [] (fCk 2 (cIo 0 (cVal (fP (p2 gPow (fun _ => some (9, .int 10)) (fun _ => some (9, .int 6)))) cNil))))) fNil)))
  (gSeq (gAsg (fCallS gIx (fCons (fCallS gLst (fCons (fP (fun _ => some (9, .str "oil"))) (fCons (fP (fun _ => some (9, .str "tin"))) (fCons (fP (fun _ => some (9, .str "a"))) (fCons (fP (fun _ => some (9, .str "abcdefgh"))) fNil))))) (fCons (fCallM false m_law_digit [some 0, none] [] (fCk 2 (cIo 0 (cVal (fP (fun _ => some (9, .int 4))) cNil)))) fNil))) (hName [0] 5))
  (gSeq (gAsg (fCallS gIx (fCons (fCallS gLst (fCons (fP (fun _ => some (9, .str "guard"))) (fCons (fP (fun _ => some (9, .str "now"))) (fCons (fP (fun _ => some (9, .str "whole"))) (fCons (fP (fun _ => some (9, .str "only"))) (fCons (fP (fun _ => some (9, .str "cancel"))) fNil)))))) (fCons (fCallM false m_law_digit [some 0, none] [] (fCk 2 (cIo 0 (cVal (fP (fun _ => some (9, .int 5))) cNil)))) fNil))) (hName [0] 6))
  (gSeq (gAsg (fCallS gLst (fCons (fCallS gTup (fCons (fP (fun _ => some (9, .str "trade"))) (fCons (fP (pName 1)) (fCons (fP (pName 2)) (fCons (fP (pName 4)) (fCons (fP (pName 3)) fNil)))))) (fCons (fCallS gTup (fCons (fP (fun _ => some (9, .str "shown"))) (fCons (fP (pName 1)) (fCons (fP (pName 3)) fNil)))) (fCons (fCallS gTup (fCons (fP (fun _ => some (9, .str "off"))) (fCons (fP (pName 1)) (fCons (fP (pName 3)) (fCons (fP (pName 6)) fNil))))) fNil)))) (hName [0] 7))
  (gSeq (gAsg (fCallS gCat (fCons (fFz 7) (fCons (fCallS gLst (fCons (fCallS gTup (fCons (fP (fun _ => some (9, .str "less"))) (fCons (fP (pName 1)) (fCons (fP (pName 2)) (fCons (fP (pName 3)) fNil))))) (fCons (fCallS gTup (fCons (fP (fun _ => some (9, .str "less"))) (fCons (fP (pName 1)) (fCons (fP (pName 3)) fNil)))) (fCons (fCallS gTup (fCons (fP (fun _ => some (9, .str "taken"))) (fCons (fP (pName 1)) fNil))) (fCons (fCallS gTup (fCons (fP (fun _ => some (9, .str "waits"))) (fCons (fP (pName 1)) fNil))) fNil))))) fNil))) (hName [0] 7))
  (gSeq (gAsg (fCallS gCat (fCons (fFz 7) (fCons (fCallS gLst (fCons (fCallS gTup (fCons (fP (fun _ => some (9, .str "rests"))) (fCons (fP (pName 1)) (fCons (fP (pName 3)) fNil)))) (fCons (fCallS gTup (fCons (fP (fun _ => some (9, .str "halt"))) (fCons (fP (pName 5)) fNil))) (fCons (fCallS gTup (fCons (fP (fun _ => some (9, .str "woken"))) (fCons (fP (pName 1)) fNil))) (fCons (fCallS gTup (fCons (fP (fun _ => some (9, .str "changed"))) (fCons (fP (pName 1)) fNil))) (fCons (fCallS gTup (fCons (fP (fun _ => some (9, .str "none"))) fNil)) fNil)))))) fNil))) (hName [0] 7))
  (gSeq (gAsg (fCallS gCat (fCons (fFz 7) (fCons (fCallS gLst (fCons (fCallS gTup (fCons (fP (fun _ => some (9, .str "phase"))) (fCons (fP (pName 5)) (fCons (fCallS gIx (fCons (fCallS gLst (fCons (fP (fun _ => some (9, .str "open"))) (fCons (fP (fun _ => some (9, .str "call"))) (fCons (fP (fun _ => some (9, .str "shut"))) fNil)))) (fCons (fCallM false m_law_digit [some 0, none] [] (fCk 2 (cIo 0 (cVal (fP (fun _ => some (9, .int 3))) cNil)))) fNil))) fNil)))) (fCons (fCallS gTup (fCons (fP (fun _ => some (9, .str "opened"))) (fCons (fP (pName 5)) (fCons (fP (pName 4)) (fCons (fP (pName 3)) fNil))))) fNil))) fNil))) (hName [0] 7))
  (gSeq (gExp (fMeth 7 lName opAppend (fCons (fCallS gTup (fCons (fP (fun _ => some (9, .str "opened"))) (fCons (fP (pName 5)) (fCons (fP (fun _ => some (9, .non))) (fCons (fP (fun _ => some (9, .int 0))) fNil))))) fNil)))
  (gRet (fCallS gIx (fCons (fFz 7) (fCons (fCallM false m_law_digit [some 0, none] [] (fCk 2 (cIo 0 (cVal (fP (fun _ => some (9, .int 15))) cNil)))) fNil)))))))))))))
noncomputable def m_law_event : Mir := mirOf false 8 [true] b_law_event
set_option maxHeartbeats 8000000 in
theorem ok_law_event {P : Program} {w : World} {K : PySem.W.Frag} {mg : Str → Option Value} {base : Heap} (T : Txt mg) (D_law_digit : Dok P w K mg base CX0 "_law_digit" ["tape", "many"] 1 m_law_digit []) {f : Addr} {fd : FuncData} (F : Fun K "_law_event" "_law_event" s_law_event f fd) :
    FnOk P w K mg base CX0 2 f fd ["tape"] (spM K 1 m_law_event) := okM (N := ["tape", "number", "other", "amount", "price", "thing", "word", "some"]) (g := b_law_event) (io := [true]) F sc_law_event rfl fun cdv A outer s H E hr =>
    (ss_c (sv_par 1 2 rfl sc_law_event.nd (pa_c (pv_call D_law_digit (hr.mono (by decide)) (pc_io 0 (pc_v (pv_pp pp_int) pc_n))) (pa_c (pv_call D_law_digit (hr.mono (by decide)) (pc_io 0 (pc_v (pv_pp pp_int) pc_n))) pa_n)))
    (ss_c (sv_par 3 4 rfl sc_law_event.nd (pa_c (pv_add (pv_pp pp_int) (pv_call D_law_digit (hr.mono (by decide)) (pc_io 0 (pc_v (pv_pp (pp_pow pp_int pp_int)) pc_n)))) (pa_c (pv_add (pv_pp pp_int) (pv_call D_law_digit (hr.mono (by decide)) (pc_io 0 (pc_v (pv_pp (pp_pow pp_int pp_int)) pc_n)))) pa_n)))
    (ss_c (sv_set 5 sc_law_event.nd (pv_ix (pv_lst (pa_c (pv_pp pp_str) (pa_c (pv_pp pp_str) (pa_c (pv_pp pp_str) (pa_c (pv_pp pp_str) pa_n))))) (pv_call D_law_digit (hr.mono (by decide)) (pc_io 0 (pc_v (pv_pp pp_int) pc_n)))))
    (ss_c (sv_set 6 sc_law_event.nd (pv_ix (pv_lst (pa_c (pv_pp pp_str) (pa_c (pv_pp pp_str) (pa_c (pv_pp pp_str) (pa_c (pv_pp pp_str) (pa_c (pv_pp pp_str) pa_n)))))) (pv_call D_law_digit (hr.mono (by decide)) (pc_io 0 (pc_v (pv_pp pp_int) pc_n)))))
    (ss_c (sv_set 7 sc_law_event.nd (pv_lst (pa_c (pv_tup (pa_c (pv_pp pp_str) (pa_c (pv_pp (pp_name 1)) (pa_c (pv_pp (pp_name 2)) (pa_c (pv_pp (pp_name 4)) (pa_c (pv_pp (pp_name 3)) pa_n)))))) (pa_c (pv_tup (pa_c (pv_pp pp_str) (pa_c (pv_pp (pp_name 1)) (pa_c (pv_pp (pp_name 3)) pa_n)))) (pa_c (pv_tup (pa_c (pv_pp pp_str) (pa_c (pv_pp (pp_name 1)) (pa_c (pv_pp (pp_name 3)) (pa_c (pv_pp (pp_name 6)) pa_n))))) pa_n)))))
    (ss_c (sv_set 7 sc_law_event.nd (pv_cat (pv_fz 7) (pv_lst (pa_c (pv_tup (pa_c (pv_pp pp_str) (pa_c (pv_pp (pp_name 1)) (pa_c (pv_pp (pp_name 2)) (pa_c (pv_pp (pp_name 3)) pa_n))))) (pa_c (pv_tup (pa_c (pv_pp pp_str) (pa_c (pv_pp (pp_name 1)) (pa_c (pv_pp (pp_name 3)) pa_n)))) (pa_c (pv_tup (pa_c (pv_pp pp_str) (pa_c (pv_pp (pp_name 1)) pa_n))) (pa_c (pv_tup (pa_c (pv_pp pp_str) (pa_c (pv_pp (pp_name 1)) pa_n))) pa_n)))))))
    (ss_c (sv_set 7 sc_law_event.nd (pv_cat (pv_fz 7) (pv_lst (pa_c (pv_tup (pa_c (pv_pp pp_str) (pa_c (pv_pp (pp_name 1)) (pa_c (pv_pp (pp_name 3)) pa_n)))) (pa_c (pv_tup (pa_c (pv_pp pp_str) (pa_c (pv_pp (pp_name 5)) pa_n))) (pa_c (pv_tup (pa_c (pv_pp pp_str) (pa_c (pv_pp (pp_name 1)) pa_n))) (pa_c (pv_tup (pa_c (pv_pp pp_str) (pa_c (pv_pp (pp_name 1)) pa_n))) (pa_c (pv_tup (pa_c (pv_pp pp_str) pa_n)) pa_n))))))))
    (ss_c (sv_set 7 sc_law_event.nd (pv_cat (pv_fz 7) (pv_lst (pa_c (pv_tup (pa_c (pv_pp pp_str) (pa_c (pv_pp (pp_name 5)) (pa_c (pv_ix (pv_lst (pa_c (pv_pp pp_str) (pa_c (pv_pp pp_str) (pa_c (pv_pp pp_str) pa_n)))) (pv_call D_law_digit (hr.mono (by decide)) (pc_io 0 (pc_v (pv_pp pp_int) pc_n)))) pa_n)))) (pa_c (pv_tup (pa_c (pv_pp pp_str) (pa_c (pv_pp (pp_name 5)) (pa_c (pv_pp (pp_name 4)) (pa_c (pv_pp (pp_name 3)) pa_n))))) pa_n)))))
    (ss_c (sv_exp (pv_append (lv_name 7) (pa_c (pv_tup (pa_c (pv_pp pp_str) (pa_c (pv_pp (pp_name 5)) (pa_c (pv_pp pp_non) (pa_c (pv_pp pp_int) pa_n))))) pa_n)))
    (ss_1 (sv_ret (pv_ix (pv_fz 7) (pv_call D_law_digit (hr.mono (by decide)) (pc_io 0 (pc_v (pv_pp pp_int) pc_n)))))))))))))))
abbrev s_law : Stmt := topS 6
abbrev N_law : List Str := ["script", "start", "tape", "turn", "event", "words", "part"]
theorem sc_law : FnScope ["script", "start", "tape", "turn", "event", "words", "part"] ["script"] (defScope s_law) := ⟨rfl, rfl, rfl, by decide +kernel, rfl, by decide +kernel, by decide +kernel⟩
noncomputable def l1_law : FS :=
  (gIfS (fTest (fP (p2 gIsN (pName 6) (fun _ => some (9, .non))))) (gExp (fMeth 5 lName opAppend (fCons (fP (fun _ => some (9, .str "-"))) fNil))) (gExp (fMeth 5 lName opAppend (fCons (fP (pCall gStr (pCons (pName 6) pNil))) fNil))))
noncomputable def l2_law : FS :=
  (gSeq (gAsg (fCallM false m_law_event [some 2] [] (fCk 1 (cIo 2 cNil))) (hName [] 4))
  (gSeq (gAsg (fCallS gLst fNil) (hName [] 5))
  (gSeq (gFor (fItT (fP (pName 4))) (hName [] 6) l1_law)
  (gIfS (fTest (f2 gNe (fCallM false m_event_text [none] [] (fCk 1 (cVal (fP (pName 4)) cNil))) (fM1 gJoin (fun _ => some (9, .str " ")) (fFz 5)))) (gRet (fP (fun _ => some (9, .bl false)))) gNx))))
noncomputable def l3_law : FS :=
  (gSeq (gAsg (fCallM false m_law_tape [none, none] [] (fCk 2 (cVal (fFz 0) (cVal (fP (pName 1)) cNil)))) (hName [] 2))
  (gFor (fRng (fCons (fP (fun _ => some (9, .int 4))) fNil)) (hName [] 3) l2_law))
noncomputable def b_law : FS :=
  (gSeq (gFor (fRng (fCons (fP (pCall gMax (pCons (fun _ => some (9, .int 1)) (pCons (pCall gMin (pCons (fun _ => some (9, .int 8)) (pCons (pCall gLen (pCons (pName 0) pNil)) pNil))) pNil)))) fNil)) (hName [] 1) l3_law)
  (gRet (fP (fun _ => some (9, .bl true)))))
noncomputable def m_law : Mir := mirOf false 7 [false] b_law
set_option maxHeartbeats 8000000 in
theorem ok_law {P : Program} {w : World} {K : PySem.W.Frag} {mg : Str → Option Value} {base : Heap} (T : Txt mg) (D_law_tape : Dok P w K mg base CX0 "_law_tape" ["script", "start"] 1 m_law_tape []) (D_law_event : Dok P w K mg base CX0 "_law_event" ["tape"] 2 m_law_event []) (D_event_text : Dok P w K mg base CX0 "event_text" ["event"] 1 m_event_text []) {f : Addr} {fd : FuncData} (F : Fun K "law" "law" s_law f fd) :
    FnOk P w K mg base CX0 3 f fd ["script"] (spM K 1 m_law) := okM (N := ["script", "start", "tape", "turn", "event", "words", "part"]) (g := b_law) (io := [false]) F sc_law rfl fun cdv A outer s H E hr =>
    (ss_c (sv_for PassesOwn.never rfl (iv_rng T.n_range (pa_c (pv_pp (pp_bi (call_max2 rfl) CallP.max T.n_max (by decide +kernel) (pq_c pp_int (pq_c (pp_bi (call_min2 rfl) CallP.min T.n_min (by decide +kernel) (pq_c pp_int (pq_c (pp_bi call_len CallP.len T.n_len PySem.boot_len (pq_c (pp_name 0) pq_nil)) pq_nil))) pq_nil)))) pa_n)) (gv_name 1 sc_law.nd) (ss_c (sv_set 2 sc_law.nd (pv_call D_law_tape (hr.mono (by decide)) (pc_v (pv_fz 0) (pc_v (pv_pp (pp_name 1)) pc_n))))
    (ss_1 (sv_for PassesOwn.never rfl (iv_rng T.n_range (pa_c (pv_pp pp_int) pa_n)) (gv_name 3 sc_law.nd) (ss_c (sv_set 4 sc_law.nd (pv_call D_law_event (hr.mono (by decide)) (pc_io 2 pc_n)))
    (ss_c (sv_set 5 sc_law.nd (pv_lst pa_n))
    (ss_c (sv_for PassesOwn.never rfl (iv_tup (pv_pp (pp_name 4))) (gv_name 6 sc_law.nd) (ss_1 (sv_if (tp_cmp op_isN CallP.isN (pp_name 6) pp_non (nomark _)) (ss_1 (sv_exp (pv_append (lv_name 5) (pa_c (pv_pp pp_str) pa_n)))) (ss_1 (sv_exp (pv_append (lv_name 5) (pa_c (pv_pp (pp_ty call_strA CallP.strA T.n_str (by decide +kernel) (pq_c (pp_name 6) pq_nil))) pa_n)))))))
    (ss_1 (sv_if (tv_cmp (op_neA hr.units) CallP.ne (pv_call D_event_text (hr.mono (by decide)) (pc_v (pv_pp (pp_name 4)) pc_n)) (pv_join pp_str (pv_fz 5)) (nomark _)) (ss_1 (sv_ret (pv_pp pp_bl))) ss_n)))))))))
    (ss_1 (sv_ret (pv_pp pp_bl))))

end Rh
namespace Rh
open PySem L2
local macro_rules | `(tactic| walk_at "v1") => `(tactic| first
  | with_reducible refine ws_seq ?_
  | with_reducible refine ws_asg ?_
  | with_reducible refine ws_ret ?_
  | with_reducible refine ws_retN ?_
  | with_reducible refine ws_exp ?_
  | with_reducible refine ws_if ?_
  | with_reducible refine ws_par ?_
  | with_reducible refine ws_for ?_
  | with_reducible refine ws_nx ?_
  | with_reducible refine ws_bk ?_
  | with_reducible refine ws_ct ?_
  | with_reducible refine wt_test ?_
  | with_reducible refine wt_tru ?_
  | with_reducible refine wt_truP ?_
  | with_reducible refine wt_and ?_
  | with_reducible refine wt_or ?_
  | with_reducible refine wt_not ?_
  | with_reducible refine we_fPi ?_
  | with_reducible refine we_cmpD ?_
  | with_reducible refine we_m1 ?_
  | with_reducible refine wd_strI ?_ ?_
  | with_reducible refine wd_strS ?_
  | with_reducible refine wd_eqS ?_
  | with_reducible refine wd_neS ?_
  | with_reducible refine we_nil ?_
  | with_reducible refine we_cons ?_
  | with_reducible refine we_call ?_
  | with_reducible refine we_callS ?_
  | with_reducible refine we_and ?_
  | with_reducible refine we_or ?_
  | with_reducible refine we_not ?_
  | with_reducible refine we_if ?_
  | with_reducible refine we_lstI (by with_unfolding_all exact Nat.le_of_ble_eq_true rfl) (by with_unfolding_all exact rfl) ?_
  | with_reducible refine we_tupI (by with_unfolding_all exact Nat.le_of_ble_eq_true rfl) (by with_unfolding_all exact rfl) ?_
  | ((with_reducible refine we_catI (by with_unfolding_all exact rfl) (by with_unfolding_all exact rfl) (by with_unfolding_all exact rfl) ?_); dsimp only [List.cons_append, List.nil_append])
  | with_reducible refine we_lst (by with_unfolding_all exact Nat.le_of_ble_eq_true rfl) ?_
  | with_reducible refine we_tup (by with_unfolding_all exact Nat.le_of_ble_eq_true rfl) ?_
  | with_reducible refine we_ix ?_
  | with_reducible refine we_fz (by with_unfolding_all exact rfl) ?_
  | with_reducible refine we_mv (by with_unfolding_all exact rfl) ?_
  | with_reducible refine we_callIo (by with_unfolding_all exact rfl) ?_
  | with_reducible refine we_callV (by with_unfolding_all exact rfl) ?_
  | with_reducible refine we_callIoN (by with_unfolding_all exact rfl) (by with_unfolding_all exact rfl) ?_
  | with_reducible refine wc_ck ?_
  | with_reducible refine wc_nil ?_
  | with_reducible refine wc_val ?_
  | with_reducible refine wp_name (by with_unfolding_all exact rfl) ?_
  | with_reducible refine wp_call ?_
  | with_reducible refine wp_ix ?_
  | with_reducible refine wl_nil ?_
  | with_reducible refine wl_cons ?_
  | with_reducible refine wl_name ?_
  | with_reducible refine wl_ix ?_
  | with_reducible refine wd_add ?_
  | with_reducible refine wd_sub ?_
  | with_reducible refine wd_cmp ?_
  | with_reducible refine wd_neg ?_
  | with_reducible refine wd_max ?_
  | with_reducible refine wd_min ?_
  | with_reducible refine wd_abs ?_
  | with_reducible refine wd_int ?_
  | with_reducible refine wd_lenL ?_
  | with_reducible refine wd_lenT ?_
  | with_reducible refine wd_eqI ?_
  | with_reducible refine wd_neI ?_
  | with_reducible refine wd_eqB ?_
  | with_reducible refine wd_neB ?_
  | with_reducible refine wd_isN ?_
  | with_reducible refine wd_notN ?_
  | with_reducible refine wd_isiB (by with_unfolding_all exact rfl) ?_
  | with_reducible refine wd_isiI (by with_unfolding_all exact rfl) ?_
  | with_reducible refine wd_mod ?_ ?_
  | with_reducible refine wd_div ?_ ?_ ?_
  | with_reducible refine wd_mul ?_ ?_
  | ((with_reducible refine wd_pow ?_ ?_ ?_) <;> try dsimp only [Int.reduceToNat])
  | with_reducible refine wp_at (by with_unfolding_all exact rfl) ?_
  | with_reducible refine wo_pop0 ?_
  | ((with_reducible refine wo_app (by with_unfolding_all exact Nat.le_of_ble_eq_true rfl) ?_); dsimp only [List.cons_append, List.nil_append])
  | with_reducible refine wi_lst ?_
  | with_reducible refine wi_tup ?_
  | with_reducible refine wi_lstF ?_
  | with_reducible refine wi_tupF ?_
  | with_reducible refine wi_rng ?_
  | with_reducible refine wi_rng2 ?_
  | with_reducible refine wu_bl ?_
  | with_reducible refine wu_int ?_
  | with_reducible refine wu_lst ?_
  | with_reducible refine wu_non ?_
  | (with_reducible refine wg_name (by with_unfolding_all exact rfl) ?_); dsimp only [List.set]
  | with_reducible refine wg_nil ?_
  | with_reducible refine wg_cons ?_
  | with_reducible refine wg_tup (by with_unfolding_all exact rfl) ?_
  | (with_reducible refine wg_sub (by with_unfolding_all exact rfl) ?_)
  | with_reducible refine we_meth (by with_unfolding_all exact rfl) ?_
  | with_reducible refine wp_some ?_
  | with_reducible refine ⟨by with_unfolding_all exact rfl, ?_⟩
  | with_reducible refine ⟨_, _, by with_unfolding_all exact rfl, by omega, by omega, ?_⟩
  | with_reducible refine ⟨_, _, by with_unfolding_all exact rfl, ?_⟩
  | with_reducible refine ⟨_, by with_unfolding_all exact rfl, ?_⟩
  | (with_reducible refine ⟨_, _, _, _, _, _, by with_unfolding_all exact rfl, by with_unfolding_all exact rfl, by with_unfolding_all exact rfl, Or.inl (by with_unfolding_all exact rfl), ?_⟩; try dsimp only [id, Int.reduceToNat, List.set, Function.comp])
  | (with_reducible refine ⟨_, _, _, _, _, _, _, by with_unfolding_all exact rfl, by with_unfolding_all exact rfl, by with_unfolding_all exact rfl, by with_unfolding_all exact rfl, ?_⟩; try dsimp only [id, Int.reduceToNat, List.set, Function.comp])
  | (with_reducible refine ⟨_, _, _, by with_unfolding_all exact rfl, ?_⟩; try dsimp only [id, Int.reduceToNat, List.set, Function.comp])
  | with_reducible refine ⟨[], _, by with_unfolding_all exact rfl, by with_unfolding_all exact rfl, by with_unfolding_all exact rfl, ?_⟩
  | with_reducible refine ⟨[_], _, by with_unfolding_all exact rfl, by with_unfolding_all exact rfl, by with_unfolding_all exact rfl, ?_⟩
  | with_reducible refine ⟨[_, _], _, by with_unfolding_all exact rfl, by with_unfolding_all exact rfl, by with_unfolding_all exact rfl, ?_⟩
  | with_reducible refine ⟨[_, _, _], _, by with_unfolding_all exact rfl, by with_unfolding_all exact rfl, by with_unfolding_all exact rfl, ?_⟩
  | with_reducible refine ⟨[_, _, _, _], _, by with_unfolding_all exact rfl, by with_unfolding_all exact rfl, by with_unfolding_all exact rfl, ?_⟩
  | with_reducible refine ⟨[], by with_unfolding_all exact rfl, ?_⟩
  | with_reducible refine ⟨[_], by with_unfolding_all exact rfl, ?_⟩
  | with_reducible refine ⟨[_, _], by with_unfolding_all exact rfl, ?_⟩
  | with_reducible refine ⟨[_, _, _], by with_unfolding_all exact rfl, ?_⟩
  | with_reducible refine ⟨[_, _, _, _], by with_unfolding_all exact rfl, ?_⟩
  | with_reducible refine ⟨[_, _, _, _, _], by with_unfolding_all exact rfl, ?_⟩
  | with_reducible refine ⟨by with_unfolding_all exact Nat.le_of_ble_eq_true rfl, ?_⟩
  | with_reducible refine ⟨fun hb => absurd hb (by with_unfolding_all exact Bool.false_ne_true), fun _ => ?_⟩
  | with_reducible refine ⟨fun _ => ?_, fun hb => absurd hb (by with_unfolding_all exact fun h => Bool.noConfusion h)⟩
  | (with_reducible refine And.intro (fun hb => ?_) (fun hb => ?_) <;> try simp only [decide_eq_true_eq, decide_eq_false_iff_not, Bool.not_eq_true', Bool.not_eq_false', Int.not_lt, Int.not_le] at hb)
  | dsimp only [List.set, List.map, List.append, List.length, Option.map]
  | assumption
  | decide
  | omega
  | exact mul_side (by omega) (by omega)
  | exact log_side (by omega)
  | exact pow_side (by omega) (by omega) (by omega)
  | fail
)
/-- the tape -/
def Tap (a : DK) : Prop := ∃ c s : Int, a = (9, .lst [.int c, .int s]) ∧ 0 ≤ s ∧ s < 2147483648
theorem tape_spec {ns : List Int} {k : Int} {j : Nat} (h0 : 0 ≤ k) (h1 : k < 1000) {Q : DK → Gm → Prop} {Z : Xn → Gm → Prop} (q : ∀ w, Tap w → Q w [none, none]) : Wm (m_law_tape [(0, .lst (ns.map .int)), (j, .int k)]) Q Z := by
  refine wm_of ?_
  unfold b_law_tape
  simp only [List.map_cons, List.map_nil, List.length_cons, List.length_nil, Nat.reduceAdd, Nat.reduceSub, List.replicate, List.cons_append, List.nil_append]
  repeat' walk_at "v1"
  · rename_i hb
    simp only [List.length_map] at hb
    refine wat_int (is := ns) (fun _ => True) rfl h0 hb (fun _ _ => trivial) fun g _ => ?_
    repeat' walk_at "v1"
    all_goals exact q _ ⟨_, _, rfl, by omega, by omega⟩
  all_goals exact q _ ⟨_, _, rfl, by omega, by omega⟩
theorem digit_spec {w : DK} {many : Int} {j : Nat} {Q : DK → Gm → Prop} {Z : Xn → Gm → Prop} (hw : Tap w) (h1 : 1 ≤ many) (h2 : many < 2 ^ 8000) (q : ∀ r w', 0 ≤ r → r < many → Tap w' → Q (9, .int r) [some w', none]) : Wm (m_law_digit [w, (j, .int many)]) Q Z := by
  obtain ⟨c, s, rfl, hs0, hs1⟩ := hw
  have hm : 0 < many := by omega
  have hl : many.natAbs.log2 < 9000 := Nat.lt_of_le_of_lt (log_ok (n := 8000) (by omega)) (by decide)
  refine wm_of ?_
  unfold b_law_digit
  simp only [List.map_cons, List.map_nil, List.length_cons, List.length_nil, Nat.reduceAdd, Nat.reduceSub, List.replicate, List.cons_append, List.nil_append]
  repeat' walk_at "v1"
  all_goals exact q _ _ (Int.emod_nonneg _ (by omega)) (Int.emod_lt_of_pos _ hm) ⟨_, _, rfl, by omega, by omega⟩
/-- a part of an event -/
def Part (d : D) : Prop := (∃ i, d = .int i ∧ 0 ≤ i ∧ i < 10 ^ 10) ∨ (∃ s : Str, d = .str s ∧ s.length ≤ 10) ∨ d = .non
theorem part_nil : ∀ d ∈ ([] : List D), Part d := fun _ m => nomatch m
theorem part_cons {d : D} {r : List D} (h : Part d) (t : ∀ d ∈ r, Part d) : ∀ d' ∈ d :: r, Part d' := fun d' m => (List.mem_cons.mp m).elim (fun e => e ▸ h) (t d')
local macro_rules | `(tactic| walk_at "v2") => `(tactic| first
  | walk_at "v1"
  | refine digit_spec (by assumption) (by omega) (by omega) (fun r w' hr0 hr1 hw' => ?_))
theorem event_spec {w : DK} {Q : DK → Gm → Prop} {Z : Xn → Gm → Prop} (hw : Tap w) (q : ∀ k parts w', Tap w' → parts.length ≤ 5 → (∀ d ∈ parts, Part d) → Q (k, .tup parts) [some w']) : Wm (m_law_event [w]) Q Z := by
  refine wm_of ?_
  unfold b_law_event
  simp only [List.map_cons, List.map_nil, List.length_cons, List.length_nil, Nat.reduceAdd, Nat.reduceSub, List.replicate, List.cons_append, List.nil_append]
  repeat' walk_at "v2"
  refine wat_str (is := ["oil", "tin", "a", "abcdefgh"]) (fun s => s.length ≤ 10) rfl (by assumption) (by assumption) (by decide +kernel) fun s1 hs1 => ?_
  repeat' walk_at "v2"
  refine wat_str (is := ["guard", "now", "whole", "only", "cancel"]) (fun s => s.length ≤ 10) rfl (by assumption) (by assumption) (by decide +kernel) fun s2 hs2 => ?_
  repeat' walk_at "v2"
  refine wat_str (is := ["open", "call", "shut"]) (fun s => s.length ≤ 10) rfl (by assumption) (by assumption) (by decide +kernel) fun s3 hs3 => ?_
  repeat' walk_at "v2"
  simp only [List.cons_append, List.nil_append]
  refine wat_mem (by assumption) (by simp only [List.length_cons, List.length_nil]; omega) fun d m => ?_
  simp only [List.mem_cons, List.not_mem_nil, or_false] at m
  rcases m with rfl | rfl | rfl | rfl | rfl | rfl | rfl | rfl | rfl | rfl | rfl | rfl | rfl | rfl | rfl
  all_goals refine ⟨by with_unfolding_all exact Nat.le_of_ble_eq_true rfl, q _ _ _ (by assumption) (by simp) ?_⟩
  all_goals repeat' (first
    | exact part_nil
    | refine part_cons ?_ ?_
    | exact .inl ⟨_, rfl, by omega, by omega⟩
    | exact .inr (.inr rfl)
    | exact .inr (.inl ⟨_, rfl, by assumption⟩)
    | exact .inr (.inl ⟨_, rfl, by decide +kernel⟩)
    | fail)
def wrd : D → Str
  | .int i => toString i
  | .str s => s
  | _ => "-"
theorem wrd_len {d : D} (h : Part d) : (wrd d).length ≤ 10 := by
  rcases h with ⟨i, rfl, h0, h1⟩ | ⟨s, rfl, h⟩ | rfl
  · exact PyProof.Rows.toString_length_le h0 (by decide) h1
  · exact h
  · show (("-" : Str)).length ≤ 10
    decide +kernel
theorem sum_len : ∀ {parts : List D}, (∀ d ∈ parts, Part d) → ((parts.map wrd).map (·.length)).sum ≤ 10 * parts.length
  | [], _ => by simp
  | d :: r, h => by
    have := sum_len (parts := r) fun d m => h d (List.mem_cons_of_mem _ m)
    have := wrd_len (h d List.mem_cons_self)
    simp only [List.map_cons, List.sum_cons, List.length_cons]
    omega
theorem join_ok {parts : List D} (hl : parts.length ≤ 5) (h : ∀ d ∈ parts, Part d) : ((parts.map wrd).map (·.length)).sum + (parts.map wrd).length * ((" " : Str)).length ≤ 16777216 := by
  have := sum_len h
  have e : ((" " : Str)).length = 1 := by decide +kernel
  rw [e, List.length_map]
  omega
theorem part_log {i : Int} (h0 : 0 ≤ i) (h1 : i < 10 ^ 10) : i.natAbs.log2 < 1920 := by
  have := log_ok (i := i) (n := 199) (by omega)
  omega
theorem part_imm : ∀ {parts : List D}, (∀ d ∈ parts, Part d) → immA parts = true
  | [], _ => rfl
  | d :: r, h => by
    rw [immA, part_imm (parts := r) fun d m => h d (List.mem_cons_of_mem _ m)]
    rcases h d List.mem_cons_self with ⟨i, rfl, _⟩ | ⟨s, rfl, _⟩ | rfl <;> rfl
theorem we_eq {α : Type} {m : Option (R α)} {x : α} {Γ2 : Gm} (h : We m (fun a Γ' => a = x ∧ Γ' = Γ2) (fun _ _ => False)) : m = some (.ok x Γ2) := by
  match m, h with
  | some (.ok a Γ), ⟨h1, h2⟩ => rw [h1, h2]
theorem text_spec {k : Nat} {parts : List D} {Q : DK → Gm → Prop} {Z : Xn → Gm → Prop} (hl : parts.length ≤ 5) (h : ∀ d ∈ parts, Part d) (q : Q (9, .str (Txt.join " " (parts.map wrd))) [none]) : Wm (m_event_text [(k, .tup parts)]) Q Z := by
  refine wm_of ?_
  unfold b_event_text
  simp only [List.map_cons, List.map_nil, List.length_cons, List.length_nil, Nat.reduceAdd, Nat.reduceSub, List.replicate, List.cons_append, List.nil_append]
  repeat' walk_at "v1"
  refine we_lcMap (φ := fun d => .str (wrd d)) ?_
  repeat' walk_at "v1"
  refine ⟨part_imm h, ?_⟩
  repeat' walk_at "v1"
  refine ⟨by simp only [LINE]; omega, fun d m => ⟨rfl, 9, we_eq ?_⟩, ?_⟩
  · unfold l1_event_text
    rcases h d m with ⟨i, rfl, h0, h1⟩ | ⟨s, rfl, h⟩ | rfl
    · have := part_log h0 h1
      repeat' walk_at "v1"
    · repeat' walk_at "v1"
    · repeat' walk_at "v1"
  · refine wd_joinL (parts.map wrd) (by simp [Function.comp_def]) (join_ok hl h) ?_
    repeat' walk_at "v1"
theorem law_spec {ns : List Int} (hl : ns.length ≤ 63) (hb : ∀ z ∈ ns, Builtin.Int.intBits z ≤ 1048576) : Wm (m_law [(0, .lst (ns.map .int))]) (fun a _ => a = (9, .bl true)) (fun _ _ => False) := by
  clear hb
  refine wm_of ?_
  unfold b_law
  simp only [List.map_cons, List.map_nil, List.length_cons, List.length_nil, Nat.reduceAdd, Nat.reduceSub, List.replicate, List.cons_append, List.nil_append]
  repeat' walk_at "v1"
  refine ws_forG (fun ds Γ => ∃ x1 x2 x3 x4 x5 x6, (∀ d ∈ ds, ∃ j : Int, d = .int j ∧ 0 ≤ j ∧ j < 1000) ∧ Γ = [some (0, .lst (ns.map .int)), x1, x2, x3, x4, x5, x6]) ?_ ?_ _ _ ?_
  · rintro d ds Γ ⟨x1, x2, x3, x4, x5, x6, hd, rfl⟩
    obtain ⟨j, rfl, hj0, hj1⟩ := hd d List.mem_cons_self
    have hd := fun d m => hd d (List.mem_cons_of_mem _ m)
    unfold l3_law
    repeat' walk_at "v1"
    refine tape_spec hj0 hj1 fun w hw => ?_
    repeat' walk_at "v1"
    refine ws_forG (fun ds2 Γ => ∃ w x1 x3 x4 x5 x6, Tap w ∧ Γ = [some (0, .lst (ns.map .int)), x1, some w, x3, x4, x5, x6]) ?_ ?_ _ _ ⟨w, _, _, _, _, _, hw, rfl⟩
    · clear hd hw w x1 x2 x3 x4 x5 x6
      rintro d ds2 Γ ⟨w, x1, x3, x4, x5, x6, hw, rfl⟩
      unfold l2_law
      repeat' walk_at "v1"
      refine event_spec hw fun k parts w' hw' hl hp => ?_
      repeat' walk_at "v1"
      refine ⟨part_imm hp, ?_⟩
      repeat' walk_at "v1"
      refine ws_forG (fun ds3 Γ => ∃ done x6, parts = done ++ ds3 ∧ Γ = [some (0, .lst (ns.map .int)), x1, some w', some (0, d), some (k, .tup parts), some (9, .lst (done.map fun d => .str (wrd d))), x6]) ?_ ?_ _ _ ⟨[], _, rfl, rfl⟩
      · rintro d3 ds3 Γ ⟨done, x6, e3, rfl⟩
        have hp3 : Part d3 := hp d3 (by rw [e3]; simp)
        have hl3 : done.length < LINE := by rw [e3] at hl; simp at hl; simp [LINE]; omega
        have fin : ∀ x, ∃ done' x6, parts = done' ++ ds3 ∧ [some (0, .lst (ns.map .int)), x1, some w', some (0, d), some (k, .tup parts), some (9, .lst ((done.map fun d => .str (wrd d)) ++ [.str (wrd d3)])), x] = [some (0, .lst (ns.map .int)), x1, some w', some (0, d), some (k, .tup parts), some (9, .lst (done'.map fun d => .str (wrd d))), x6] := fun x => ⟨done ++ [d3], x, by simp [e3], by simp⟩
        unfold l1_law
        rcases hp3 with ⟨i, rfl, h0, h1⟩ | ⟨s, rfl, h⟩ | rfl
        · have := part_log h0 h1
          repeat' walk_at "v1"
          refine wo_app (by simpa using hl3) ?_
          repeat' walk_at "v1"
          exact fin _
        · repeat' walk_at "v1"
          refine wo_app (by simpa using hl3) ?_
          repeat' walk_at "v1"
          exact fin _
        · repeat' walk_at "v1"
          refine wo_app (by simpa using hl3) ?_
          repeat' walk_at "v1"
          exact fin _
      · rintro Γ ⟨done, x6, e3, rfl⟩
        rw [List.append_nil] at e3
        subst e3
        repeat' walk_at "v1"
        refine ⟨part_imm hp, ?_⟩
        repeat' walk_at "v1"
        refine text_spec hl hp ?_
        repeat' walk_at "v1"
        refine wd_joinL (parts.map wrd) (by simp [Function.comp_def]) (join_ok hl hp) ?_
        repeat' walk_at "v1"
        · rename_i hb
          exact (hb trivial).elim
        · exact ⟨_, _, _, _, _, _, hw', rfl⟩
    · rintro Γ ⟨w, x1, x3, x4, x5, x6, hw, rfl⟩
      exact ⟨_, _, _, _, _, _, hd, rfl⟩
  · rintro Γ ⟨x1, x2, x3, x4, x5, x6, hd, rfl⟩
    repeat' walk_at "v1"
  · refine ⟨_, _, _, _, _, _, ?_, rfl⟩
    intro d m
    obtain ⟨i, hi, rfl⟩ := List.mem_map.mp m
    rw [List.mem_range] at hi
    refine ⟨_, rfl, by omega, ?_⟩
    omega
theorem law_sp {K : PySem.W.Frag} {H : Hp} {a : Addr} {ns : List Int} {E : XK} (hl : ns.length ≤ 63) (hb : ∀ z ∈ ns, Builtin.Int.intBits z ≤ 1048576) (hS : SqL K H a (ns.map V.int)) : spM K 1 m_law [.ref a] H (fun v _ => v = .bl true) E := by
  obtain ⟨r, o, e, hr⟩ := (law_spec hl hb).get
  have rp : RpA K H H 0 (ns.map D.int) (ns.map V.int) [] := by
    clear e hS hb hl
    induction ns with
    | nil => exact .nil
    | cons i r ih => exact .cons (f := []) .int ih
  refine ⟨rfl, [(0, .lst (ns.map .int))], H, [], rfl, ⟨.cons (f := []) (.fz hS rp) .nil, List.nodup_nil, fun _ m => (nomatch m), Ex.refl H⟩, ?_⟩
  rw [e]
  dsimp only
  subst hr
  intro v H' Sh' O' _ R
  obtain ⟨f, g, _, h, _⟩ := R.pop
  cases h
  rfl
end Rh
namespace Rh
open PySem L2
theorem all_mk {l : PySem.W.OpenLaw} {w : World} {K : PySem.W.Frag} {h : Heap} {mg : Str → Option Value} {fa f0 f1 f2 f3 f4 : Addr} (X : K.In h) (G : h.Ns mainGlobals mg) (hfa : mg "law" = some (.ref fa))
    {od0 an0 od1 an1 od2 an2 od3 an3 od4 an4 : Option Addr} {sl0 sl1 sl2 sl3 sl4 : Array (Option Value)} {oc0 kV0 dc0 pm0 cd0 ct0 oc1 kV1 dc1 pm1 cd1 ct1 oc2 kV2 dc2 pm2 cd2 ct2 oc3 kV3 dc3 pm3 cd3 ct3 oc4 kV4 dc4 pm4 cd4 ct4 : Value}
    (a0 : PySem.W.nsIn K mainGlobals "event_text" = some (some (.ref f0))) (l0 : K.lookup f0 = some ⟨oc0, od0, .func (PySem.W.fnOf "event_text" "event_text" (defArgs s_event_text) (defBody s_event_text) (defScope s_event_text) .none kV0 dc0 pm0 an0 cd0 ct0), sl0⟩) (c0 : PySem.W.codeIn K cd0 "event_text" = true) (k0 : PySem.W.keepIn K (.ref f0) = true)
    (a1 : PySem.W.nsIn K mainGlobals "_law_tape" = some (some (.ref f1))) (l1 : K.lookup f1 = some ⟨oc1, od1, .func (PySem.W.fnOf "_law_tape" "_law_tape" (defArgs s_law_tape) (defBody s_law_tape) (defScope s_law_tape) .none kV1 dc1 pm1 an1 cd1 ct1), sl1⟩) (c1 : PySem.W.codeIn K cd1 "_law_tape" = true) (k1 : PySem.W.keepIn K (.ref f1) = true)
    (a2 : PySem.W.nsIn K mainGlobals "_law_digit" = some (some (.ref f2))) (l2 : K.lookup f2 = some ⟨oc2, od2, .func (PySem.W.fnOf "_law_digit" "_law_digit" (defArgs s_law_digit) (defBody s_law_digit) (defScope s_law_digit) .none kV2 dc2 pm2 an2 cd2 ct2), sl2⟩) (c2 : PySem.W.codeIn K cd2 "_law_digit" = true) (k2 : PySem.W.keepIn K (.ref f2) = true)
    (a3 : PySem.W.nsIn K mainGlobals "_law_event" = some (some (.ref f3))) (l3 : K.lookup f3 = some ⟨oc3, od3, .func (PySem.W.fnOf "_law_event" "_law_event" (defArgs s_law_event) (defBody s_law_event) (defScope s_law_event) .none kV3 dc3 pm3 an3 cd3 ct3), sl3⟩) (c3 : PySem.W.codeIn K cd3 "_law_event" = true) (k3 : PySem.W.keepIn K (.ref f3) = true)
    (a4 : PySem.W.nsIn K mainGlobals "law" = some (some (.ref f4))) (l4 : K.lookup f4 = some ⟨oc4, od4, .func (PySem.W.fnOf "law" "law" (defArgs s_law) (defBody s_law) (defScope s_law) .none kV4 dc4 pm4 an4 cd4 ct4), sl4⟩) (c4 : PySem.W.codeIn K cd4 "law" = true) (k4 : PySem.W.keepIn K (.ref f4) = true)
    (z0 : PySem.W.nsIn K mainGlobals "abs" = some none)
    (z1 : PySem.W.nsIn K mainGlobals "len" = some none)
    (z2 : PySem.W.nsIn K mainGlobals "max" = some none)
    (z3 : PySem.W.nsIn K mainGlobals "min" = some none)
    (z4 : PySem.W.nsIn K mainGlobals "range" = some none)
    (z5 : PySem.W.nsIn K mainGlobals "str" = some none)
    : ∃ fd : FuncData, (∀ (s : Shared) (v : Value), BindsTo s fd ⟨[v], []⟩ [("script", v)]) ∧ ∀ base : Heap, K.In base → base.Ns mainGlobals mg → FnOk l.prog w K mg base CX0 3 fa fd ["script"] (spM K 1 m_law) := by
  have e := hfa.symm.trans (PySem.W.mg_of X G a4)
  cases e
  have T : Txt mg := ⟨PySem.W.mg_none_of X G z0, PySem.W.mg_none_of X G z1, PySem.W.mg_none_of X G z2, PySem.W.mg_none_of X G z3, PySem.W.mg_none_of X G z4, PySem.W.mg_none_of X G z5⟩
  have F0 := fun_mk (st := s_event_text) l0 c0 k0
  have F1 := fun_mk (st := s_law_tape) l1 c1 k1
  have F2 := fun_mk (st := s_law_digit) l2 c2 k2
  have F3 := fun_mk (st := s_law_event) l3 c3 k3
  have F4 := fun_mk (st := s_law) l4 c4 k4
  refine ⟨PySem.W.fnOf "law" "law" (defArgs s_law) (defBody s_law) (defScope s_law) .none kV4 dc4 pm4 an4 cd4 ct4, fun s v => .of_eq rfl, fun base _ _ => ?_⟩
  have D_event_text : Dok l.prog w K mg base CX0 "event_text" ["event"] 1 m_event_text [] := Dok.mk0 (ok_event_text T  F0) (PySem.W.mg_of X G a0) k0 (F0.binds (ps := ["event"]) fun _ _ _ _ _ _ us hl => match us, hl with | [_], _ => rfl)
  have D_law_tape : Dok l.prog w K mg base CX0 "_law_tape" ["script", "start"] 1 m_law_tape [] := Dok.mk0 (ok_law_tape T  F1) (PySem.W.mg_of X G a1) k1 (F1.binds (ps := ["script", "start"]) fun _ _ _ _ _ _ us hl => match us, hl with | [_, _], _ => rfl)
  have D_law_digit : Dok l.prog w K mg base CX0 "_law_digit" ["tape", "many"] 1 m_law_digit [] := Dok.mk0 (ok_law_digit T  F2) (PySem.W.mg_of X G a2) k2 (F2.binds (ps := ["tape", "many"]) fun _ _ _ _ _ _ us hl => match us, hl with | [_, _], _ => rfl)
  have D_law_event : Dok l.prog w K mg base CX0 "_law_event" ["tape"] 2 m_law_event [] := Dok.mk0 (ok_law_event T D_law_digit F3) (PySem.W.mg_of X G a3) k3 (F3.binds (ps := ["tape"]) fun _ _ _ _ _ _ us hl => match us, hl with | [_], _ => rfl)
  exact ok_law T D_law_tape D_law_event D_event_text F4
end Rh
open PySem PySem.W PyProof.Rows
set_option maxRecDepth 100000 in
set_option maxHeartbeats 0 in
theorem PySem.Challenge.cw_ringhall_k76_events_written_holds : PySem.Challenge.rw_ringhall_k76_events_written.Holds := by
  w_on; o_law; k_head; (case hw => w_witness2)
  k_fill
  refine L2.walk_ofB (l := PySem.Challenge.rw_ringhall_k76_events_written) (n := 63) (k := 3) (x := "script") (CX := fun _ => L2.CX0) (sp := fun w => Rh.spM _ 1 Rh.m_law) rfl (by decide) rfl ⟨rfl, by decide, by decide⟩ (fun w h Y => PySem.W.kIn_of Y) ?F (fun w H a ns hl hb ho hS => Rh.law_sp hl hb hS) (fun _ _ _ _ _ z => z)
  case F =>
    intro w mg fa h KX G hmg
    refine' Rh.all_mk KX G hmg ?a0 ?l0 ?c0 ?k0 ?a1 ?l1 ?c1 ?k1 ?a2 ?l2 ?c2 ?k2 ?a3 ?l3 ?c3 ?k3 ?a4 ?l4 ?c4 ?k4 ?z0 ?z1 ?z2 ?z3 ?z4 ?z5
    (case a0 => k_is)
    (case l0 => k_is)
    (case c0 => k_is)
    (case k0 => k_is)
    (case a1 => k_is)
    (case l1 => k_is)
    (case c1 => k_is)
    (case k1 => k_is)
    (case a2 => k_is)
    (case l2 => k_is)
    (case c2 => k_is)
    (case k2 => k_is)
    (case a3 => k_is)
    (case l3 => k_is)
    (case c3 => k_is)
    (case k3 => k_is)
    (case a4 => k_is)
    (case l4 => k_is)
    (case c4 => k_is)
    (case k4 => k_is)
    (case z0 => k_is)
    (case z1 => k_is)
    (case z2 => k_is)
    (case z3 => k_is)
    (case z4 => k_is)
    (case z5 => k_is)
