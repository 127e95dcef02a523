import PyProof.Rows.All
import Wide.All
import OpenK.AllK
import Wide.FinOn
import HandS.ForMost
import HandS.ForExc
import HandS.Flow
import HandS.Style
import HandS.Wide
import HandS.Zip
import HandS.TupSets
import HandS.TupAny
import HandS.TupMul
import HandS.IsInst
import HandS.Deep
import HandS.Conv
import HandS.Codes
import HandS.Walk
import HandS.Small
import HandS.NoneIn
import HandS.EndTab
import KE.DataMinMax
import KE.GoesNew
import KE.KTupSum
import KE.SortData
import PyProof.P3In
import HandS.HotCalls
import HandS.ExcIs
import HandS.Star
import HandS.TupLe
import HandS.Head0
import HandS.Head1
import HandS.Head2
import HandS.HeadEnd
import HandS.HeadHook1
import HandS.HeadHook2
import HandS.HeadHook3
import HandS.HeadHook4
import HandS.HeadWalk
import PySem.Challenge.RW_giveform_k12_what_is_refused
set_option Elab.async false
set_option linter.all false
set_option autoImplicit false
set_option maxRecDepth 100000
set_option maxHeartbeats 1000000
/-! The data layer: values as plain data, the heap out of sight. -/
namespace Gf
open PySem PySem.Spec PyProof.Rows L2

/-- a spring: a list of two ints, whose ints change out of sight -/
def SprO (a : Addr) : HO := .ext fun h => ∃ (x y : Int) (t u : Tok) (n : Nat), h.get? a = some { cls := .type "list", data := .seq #[.int x t, .int y u] n }
/-- no table of code objects -/
abbrev NT (o : HO) : Prop := ∀ ps, o ≠ .tbl ps
/-- the object at a, just as it is -/
def ObO (a : Addr) (o : Obj) : HO := .ext fun h => h.get? a = some o
theorem ObO_nt (a : Addr) (o : Obj) : NT (ObO a o) := fun _ e => nomatch e
theorem ObO_lst (a : Addr) (o : Obj) : ¬ ∃ vs, ObO a o = .lst vs := fun ⟨_, e⟩ => nomatch e
theorem CodeO_nt (a : Addr) (q : Str) : NT (LamX.CodeO a q) := fun _ e => nomatch e
theorem CodeO_lst (a : Addr) (q : Str) : ¬ ∃ vs, LamX.CodeO a q = .lst vs := fun ⟨_, e⟩ => nomatch e
inductive D where
  | non | bl (b : Bool) | int (i : Int) | str (x : Str) | tup (xs : List D) | lst (xs : List D) | raw (v : V) | spr | hob (o : HO)
  | fnc (ob : Obj) (c : Addr) (q : Str) (xs : List (Addr × Obj)) (vs : List V) (ds : List D)

mutual
inductive R (Mu : Addr → Prop) (H : Hp) : V → D → Prop
  | non : R Mu H .non .non
  | bl (b : Bool) : R Mu H (.bl b) (.bl b)
  | int (i : Int) : R Mu H (.int i) (.int i)
  | str (x : Str) : R Mu H (.str x) (.str x)
  | tup {a : Addr} {vs : List V} {ds : List D} : H a = some (.tup vs) → RA Mu H vs ds → R Mu H (.ref a) (.tup ds)
  | lst {a : Addr} {vs : List V} {ds : List D} : H a = some (.lst vs) → ¬ Mu a → RA Mu H vs ds → R Mu H (.ref a) (.lst ds)
  | raw (v : V) : R Mu H v (.raw v)
  | spr {a : Addr} : H a = some (SprO a) → ¬ Mu a → R Mu H (.ref a) .spr
  | hob {a : Addr} {o : HO} : H a = some o → (¬ ∃ vs, o = .lst vs) → NT o → R Mu H (.ref a) (.hob o)
  | fnc {a : Addr} {ob : Obj} {c : Addr} {q : Str} {xs : List (Addr × Obj)} {vs : List V} {ds : List D} : H a = some (ObO a ob) → H c = some (LamX.CodeO c q) → (∀ p ∈ xs, H p.1 = some (ObO p.1 p.2)) → RA Mu H vs ds → R Mu H (.ref a) (.fnc ob c q xs vs ds)
inductive RA (Mu : Addr → Prop) (H : Hp) : List V → List D → Prop
  | nil : RA Mu H [] []
  | cons {v : V} {vs : List V} {d : D} {ds : List D} : R Mu H v d → RA Mu H vs ds → RA Mu H (v :: vs) (d :: ds)
end
/-- the tables of code objects that are told of, each with the name that its code objects bear -/
abbrev Tbs := List (Addr × Str)
/-- all that was tracked stands, but for the tables of code objects; the tables told of stay good -/
structure Same (τ : Tbs) (H H' : Hp) : Prop where
  app : ∀ (b : Addr) (o : HO), H b = some o → NT o → H' b = some o
  tab : ∀ p ∈ τ, LamX.TabS H p.1 p.2 → LamX.TabS H' p.1 p.2
variable {τ : Tbs}
theorem tab_of {H H' : Hp} (h : ∀ b o, H b = some o → ((∃ ps, o = .tbl ps) ∨ ∃ c q, o = LamX.CodeO c q) → H' b = some o) : ∀ p ∈ τ, LamX.TabS H p.1 p.2 → LamX.TabS H' p.1 p.2 := fun p _ ⟨ps, h1, h2, h3⟩ =>
  ⟨ps, h _ _ h1 (.inl ⟨ps, rfl⟩), h2, fun pos cv hc => let ⟨c, e1, e2⟩ := h3 pos cv hc; ⟨c, e1, h _ _ e2 (.inr ⟨c, p.2, rfl⟩)⟩⟩
theorem Same.ap {H H' : Hp} (s : Same τ H H') (b : Addr) (o : HO) (e : H b = some o) (nt : NT o := by intro _ z; cases z) : H' b = some o := s.app b o e nt
instance {H H' : Hp} : CoeFun (Same τ H H') (fun _ => ∀ (b : Addr) (o : HO), H b = some o → (nt : NT o := by intro _ z; cases z) → H' b = some o) := ⟨@Same.ap τ H H'⟩
theorem Same.refl (H : Hp) : Same τ H H := ⟨fun _ _ h _ => h, fun _ _ t => t⟩
theorem Same.trans {H H1 H2 : Hp} (a : Same τ H H1) (b : Same τ H1 H2) : Same τ H H2 := ⟨fun c o h n => b.app c o (a.app c o h n) n, fun p m t => b.tab p m (a.tab p m t)⟩
theorem Same.seq {K : PySem.W.Frag} {H H' : Hp} {a : Addr} {xs : List V} (e : Same τ H H') (h : SqL K H a xs) : SqL K H' a xs := by
  rcases h with (h | ⟨o, h⟩) | h
  · exact .inl (.inl (e _ _ h))
  · exact .inl (.inr ⟨o, e _ _ h⟩)
  · exact .inr h
/-- all but the lists that are written (and the tables) stands -/
structure SameM (τ : Tbs) (Mu : Addr → Prop) (H H' : Hp) : Prop where
  app : ∀ (a : Addr) (o : HO), H a = some o → ((∃ vs, o = .lst vs) → ¬ Mu a) → NT o → H' a = some o
  tab : ∀ p ∈ τ, LamX.TabS H p.1 p.2 → LamX.TabS H' p.1 p.2
theorem SameM.ap {Mu : Addr → Prop} {H H' : Hp} (s : SameM τ Mu H H') (a : Addr) (o : HO) (e : H a = some o) (m : (∃ vs, o = .lst vs) → ¬ Mu a) (nt : NT o := by intro _ z; cases z) : H' a = some o := s.app a o e m nt
instance {Mu : Addr → Prop} {H H' : Hp} : CoeFun (SameM τ Mu H H') (fun _ => ∀ (a : Addr) (o : HO), H a = some o → ((∃ vs, o = .lst vs) → ¬ Mu a) → (nt : NT o := by intro _ z; cases z) → H' a = some o) := ⟨@SameM.ap τ Mu H H'⟩
theorem toM {Mu : Addr → Prop} {H H' : Hp} (s : Same τ H H') : SameM τ Mu H H' := ⟨fun a o h _ n => s.app a o h n, s.tab⟩
theorem SameM.trans {Mu : Addr → Prop} {H H1 H2 : Hp} (s : SameM τ Mu H H1) (t : SameM τ Mu H1 H2) : SameM τ Mu H H2 := ⟨fun a o h n m => t.app a o (s.app a o h n m) n m, fun p m z => t.tab p m (s.tab p m z)⟩
theorem SameM.of_sub {Mu Mu' : Addr → Prop} {H H' : Hp} (s : SameM τ Mu H H') (m : ∀ a, Mu a → Mu' a) : SameM τ Mu' H H' := ⟨fun a o h n k => s.app a o h (fun e z => n e (m a z)) k, s.tab⟩
mutual
theorem R.go {Mu Mu' : Addr → Prop} {H H' : Hp} (s : SameM τ Mu H H') (hl : ∀ a o, H a = some o → ¬ Mu a → ¬ Mu' a) : ∀ (d : D) (v : V), R Mu H v d → R Mu' H' v d
  | .non, _, .non => .non
  | .bl _, _, .bl _ => .bl _
  | .int _, _, .int _ => .int _
  | .str _, _, .str _ => .str _
  | .tup ds, _, .tup h1 h2 => .tup (s _ _ h1 fun ⟨_, e⟩ => nomatch e) (RA.go s hl ds _ h2)
  | .lst ds, _, .lst h1 h2 h3 => .lst (s _ _ h1 fun _ => h2) (hl _ _ h1 h2) (RA.go s hl ds _ h3)
  | .raw _, _, .raw _ => .raw _
  | .spr, _, .spr h n => .spr (s _ _ h fun ⟨_, e⟩ => by cases e) (hl _ _ h n)
  | .hob o, _, .hob h1 h2 h3 => .hob (s.app _ _ h1 (fun e => absurd e h2) h3) h2 h3
  | .fnc _ _ _ _ _ ds, _, .fnc h1 h2 h3 h4 => .fnc (s.app _ _ h1 (fun e => absurd e (ObO_lst _ _)) (ObO_nt _ _)) (s.app _ _ h2 (fun e => absurd e (CodeO_lst _ _)) (CodeO_nt _ _)) (fun p hp => s.app _ _ (h3 p hp) (fun e => absurd e (ObO_lst _ _)) (ObO_nt _ _)) (RA.go s hl ds _ h4)
theorem RA.go {Mu Mu' : Addr → Prop} {H H' : Hp} (s : SameM τ Mu H H') (hl : ∀ a o, H a = some o → ¬ Mu a → ¬ Mu' a) : ∀ (ds : List D) (vs : List V), RA Mu H vs ds → RA Mu' H' vs ds
  | [], _, .nil => .nil
  | d :: ds, _, .cons h1 h2 => .cons (R.go s hl d _ h1) (RA.go s hl ds _ h2)
end
section
variable {Mu Mu' : Addr → Prop} {H H' H0 : Hp} {v : V} {d : D} {vs : List V} {ds : List D}
theorem R.same (h : R Mu H v d) (s : Same τ H H') : R Mu H' v d := R.go (toM s) (fun a vs e n => n) d v h
theorem RA.same (h : RA Mu H vs ds) (s : Same τ H H') : RA Mu H' vs ds := RA.go (toM s) (fun a vs e n => n) ds vs h
theorem R.sameM (h : R Mu H v d) (s : SameM τ Mu H H') : R Mu H' v d := R.go s (fun a vs e n => n) d v h
theorem RA.sameM (h : RA Mu H vs ds) (s : SameM τ Mu H H') : RA Mu H' vs ds := RA.go s (fun a vs e n => n) ds vs h
theorem RA.length : ∀ {vs : List V} {ds : List D}, RA Mu H vs ds → vs.length = ds.length
  | _, _, .nil => rfl
  | _, _, .cons _ t => by rw [List.length_cons, List.length_cons, RA.length t]
theorem RA.app : ∀ {vs : List V} {ds : List D} {vs' : List V} {ds' : List D}, RA Mu H vs ds → RA Mu H vs' ds' → RA Mu H (vs ++ vs') (ds ++ ds')
  | _, _, _, _, .nil, s => s
  | _, _, _, _, .cons r t, s => .cons r (RA.app t s)
theorem RA.one (h : R Mu H v d) : RA Mu H [v] [d] := .cons h .nil
theorem RA.get : ∀ {vs : List V} {ds : List D} {i : Nat} {d : D}, RA Mu H vs ds → ds[i]? = some d → ∃ v, vs[i]? = some v ∧ R Mu H v d
  | _, _, _, _, .nil, e => by simp at e
  | _, _, 0, _, .cons r _, e => by simp at e; subst e; exact ⟨_, rfl, r⟩
  | _, _, i + 1, d, .cons _ t, e => by
    obtain ⟨u, h1, h2⟩ := RA.get (i := i) (d := d) t (by simpa using e)
    exact ⟨u, by simpa using h1, h2⟩
theorem RA.get' : ∀ {vs : List V} {ds : List D} {i : Nat} {v : V}, RA Mu H vs ds → vs[i]? = some v → ∃ d, ds[i]? = some d ∧ R Mu H v d
  | _, _, _, _, .nil, e => by simp at e
  | _, _, 0, _, .cons r _, e => by simp at e; subst e; exact ⟨_, rfl, r⟩
  | _, _, i + 1, d, .cons _ t, e => by
    obtain ⟨u, h1, h2⟩ := RA.get' (i := i) (v := d) t (by simpa using e)
    exact ⟨u, by simpa using h1, h2⟩
theorem RA.take : ∀ {vs : List V} {ds : List D} (n : Nat), RA Mu H vs ds → RA Mu H (vs.take n) (ds.take n)
  | _, _, 0, _ => .nil
  | _, _, _ + 1, .nil => .nil
  | _, _, n + 1, .cons r t => .cons r (RA.take n t)
theorem RA.drop : ∀ {vs : List V} {ds : List D} (n : Nat), RA Mu H vs ds → RA Mu H (vs.drop n) (ds.drop n)
  | _, _, 0, r => r
  | _, _, _ + 1, .nil => .nil
  | _, _, n + 1, .cons _ t => RA.drop n t
theorem RA.rev : ∀ {vs : List V} {ds : List D}, RA Mu H vs ds → RA Mu H vs.reverse ds.reverse
  | _, _, .nil => .nil
  | _, _, .cons r t => by
    rw [List.reverse_cons, List.reverse_cons]
    exact (RA.rev t).app (.one r)
theorem RA.rep (k : Nat) (h : RA Mu H vs ds) : RA Mu H (List.replicate k vs).flatten (List.replicate k ds).flatten := by
  induction k with
  | zero => exact .nil
  | succ k ih =>
    rw [List.replicate_succ, List.replicate_succ, List.flatten_cons, List.flatten_cons]
    exact h.app ih
theorem RA.ints : ∀ {vs : List V} {ns : List Int}, RA Mu H vs (ns.map D.int) → vs = ns.map V.int
  | _, [], .nil => rfl
  | _, n :: ns, .cons r t => by
    cases r
    rw [RA.ints (ns := ns) t]
    rfl
theorem RA.bls : ∀ {vs : List V} {ns : List Bool}, RA Mu H vs (ns.map D.bl) → vs = ns.map V.bl
  | _, [], .nil => rfl
  | _, n :: ns, .cons r t => by
    cases r
    rw [RA.bls (ns := ns) t]
    rfl
theorem RA.strs : ∀ {vs : List V} {ns : List Str}, RA Mu H vs (ns.map D.str) → vs = ns.map V.str
  | _, [], .nil => rfl
  | _, n :: ns, .cons r t => by
    cases r
    rw [RA.strs (ns := ns) t]
    rfl
theorem RA.ofInts : ∀ (ns : List Int), RA Mu H (ns.map V.int) (ns.map D.int)
  | [] => .nil
  | n :: ns => .cons (.int n) (RA.ofInts ns)
theorem RA.ofStrs : ∀ (ns : List Str), RA Mu H (ns.map V.str) (ns.map D.str)
  | [] => .nil
  | n :: ns => .cons (.str n) (RA.ofStrs ns)
/-- what is written stands among the tracked -/
def MuT (Mu : Addr → Prop) (H : Hp) : Prop := ∀ a, Mu a → ∃ o, H a = some o ∧ NT o
theorem MuT.same (m : MuT Mu H) (s : Same τ H H') : MuT Mu H' := fun a h => let ⟨o, e, n⟩ := m a h; ⟨o, s.app a o e n, n⟩
theorem MuT.fresh (m : MuT Mu H) {p : Addr} (h : H p = none) : ¬ Mu p := fun z => by
  obtain ⟨o, e, _⟩ := m p z
  rw [h] at e
  cases e
theorem same_new {p : Addr} {o : HO} (h : H p = none) : Same τ H (upd H p o) := ⟨fun b x e _ => by rw [upd_ne (ne_of_none e h)]; exact e, tab_of fun b x e _ => by rw [upd_ne (ne_of_none e h)]; exact e⟩
end

theorem codeO_lst {c : Addr} {q : Str} {vs : List V} : HO.lst vs ≠ LamX.CodeO c q := fun z => by
  unfold LamX.CodeO at z
  cases z
theorem codeO_spr {a c : Addr} {q : Str} : SprO a ≠ LamX.CodeO c q := fun z => by
  unfold LamX.CodeO SprO at z
  have z := HO.ext.inj z
  have e : (fun h : Heap => ∃ (x y : Int) (t u : Tok) (n : Nat), h.get? a = some { cls := .type "list", data := .seq #[.int x t, .int y u] n }) ⟨Array.replicate (max a c + 1) { cls := .type "list", data := .seq #[.int 0 0, .int 0 0] 0 }, {}⟩ := by
    refine ⟨0, 0, 0, 0, 0, ?_⟩
    show (match (Array.replicate (max a c + 1) ({ cls := .type "list", data := .seq #[.int 0 0, .int 0 0] 0 } : Obj))[a]? with | some ⟨_, _, .freed, _⟩ => none | o => o) = _
    rw [Array.getElem?_replicate, if_pos (Nat.lt_succ_of_le (Nat.le_max_left _ _))]
  rw [z] at e
  obtain ⟨oc, vs, t, h1, h2, _⟩ := e
  have h1 : (match (Array.replicate (max a c + 1) ({ cls := .type "list", data := .seq #[.int 0 0, .int 0 0] 0 } : Obj))[c]? with | some ⟨_, _, .freed, _⟩ => none | o => o) = some oc := h1
  rw [Array.getElem?_replicate, if_pos (Nat.lt_succ_of_le (Nat.le_max_right _ _))] at h1
  cases h1
  cases h2
theorem tab_own {a : Addr} {H : Hp} {vs : List V} {u : HO} (h : H a = some (.lst vs)) : ∀ p ∈ τ, LamX.TabS H p.1 p.2 → LamX.TabS (upd H a u) p.1 p.2 := tab_of fun b o e k => by
  by_cases hb : b = a
  · subst hb
    rw [h] at e
    cases e
    rcases k with ⟨_, k⟩ | ⟨_, _, k⟩
    · cases k
    · exact absurd k codeO_lst
  · rw [upd_ne hb]; exact e
theorem tab_spr {a : Addr} {H : Hp} {u : HO} (h : H a = some (SprO a)) : ∀ p ∈ τ, LamX.TabS H p.1 p.2 → LamX.TabS (upd H a u) p.1 p.2 := tab_of fun b o e k => by
  by_cases hb : b = a
  · subst hb
    rw [h] at e
    cases e
    rcases k with ⟨_, k⟩ | ⟨_, _, k⟩
    · cases k
    · exact absurd k codeO_spr
  · rw [upd_ne hb]; exact e
abbrev DSt := List (Option D)
abbrev DK := D → Prop
abbrev DE := DSt → DK → Prop
abbrev DT := DSt → (Bool → Prop) → Prop
abbrev DA := DSt → (List D → Prop) → Prop
structure DEnds where
  nx : DSt → Prop
  rt : DK
  bk : DSt → Prop := fun _ => False
  ct : DSt → Prop := fun _ => False
abbrev DTS := DEnds → DSt → Prop
abbrev DG := D → DSt → (DSt → Prop) → Prop
abbrev DI := DSt → (List D → Prop) → Prop

structure ES (τ : Tbs) (Mu : Addr → Prop) (H0 H : Hp) (σ : L2.St) (δ : DSt) : Prop where
  mu : MuT Mu H
  sm : Same τ H0 H
  at_ : ∀ (i : Nat) (d : D), δ[i]? = some (some d) → ∃ v, σ[i]? = some (some v) ∧ R Mu H v d
theorem ES.same {Mu : Addr → Prop} {H0 H H' : Hp} {σ : L2.St} {δ : DSt} (e : ES τ Mu H0 H σ δ) (s : Same τ H H') : ES τ Mu H0 H' σ δ :=
  ⟨e.mu.same s, e.sm.trans s, fun i d h => let ⟨v, a, b⟩ := e.at_ i d h; ⟨v, a, b.same s⟩⟩
theorem ES.set {Mu : Addr → Prop} {H0 H : Hp} {σ : L2.St} {δ : DSt} {i : Nat} {v : V} {d : D} (e : ES τ Mu H0 H σ δ) (r : R Mu H v d) (hi : i < σ.length) : ES τ Mu H0 H (σ.set i (some v)) (δ.set i (some d)) := by
  refine ⟨e.mu, e.sm, fun j x h => ?_⟩
  by_cases hj : i = j
  · subst hj
    by_cases hl : i < δ.length
    · rw [List.getElem?_set_self hl] at h
      cases h
      exact ⟨v, List.getElem?_set_self hi, r⟩
    · rw [List.getElem?_eq_none (by rw [List.length_set]; omega)] at h
      cases h
  · rw [List.getElem?_set_ne hj] at h ⊢
    exact e.at_ j x h

/-- the post of an expression: the value is data, all that was tracked stands -/
def LE (τ : Tbs) (Mu : Addr → Prop) (H0 : Hp) (t : DE) : TE := fun σ H Q => ∃ δ K, ES τ Mu H0 H σ δ ∧ t δ K ∧ ∀ d, K d → ∀ v H', Same τ H H' → R Mu H' v d → Q v H'
def LT (τ : Tbs) (Mu : Addr → Prop) (H0 : Hp) (t : DT) : TT := fun σ H Q => ∃ δ K, ES τ Mu H0 H σ δ ∧ t δ K ∧ ∀ b, K b → ∀ H', Same τ H H' → Q b H'
def LA (τ : Tbs) (Mu : Addr → Prop) (H0 : Hp) (t : DA) : TA := fun σ H Q => ∃ δ K, ES τ Mu H0 H σ δ ∧ t δ K ∧ ∀ ds, K ds → ∀ vs H', Same τ H H' → RA Mu H' vs ds → Q vs H'
structure EndsOk (τ : Tbs) (Mu : Addr → Prop) (H0 H : Hp) (n : Nat) (K : DEnds) (Z : Ends) : Prop where
  nx : ∀ δ', K.nx δ' → ∀ σ' H', σ'.length = n → Same τ H H' → ES τ Mu H0 H' σ' δ' → Z.nx σ' H'
  rt : ∀ d, K.rt d → ∀ v H', Same τ H H' → R Mu H' v d → Z.rt v H'
  bk : ∀ δ', K.bk δ' → ∀ σ' H', σ'.length = n → Same τ H H' → ES τ Mu H0 H' σ' δ' → Z.bk σ' H'
  ct : ∀ δ', K.ct δ' → ∀ σ' H', σ'.length = n → Same τ H H' → ES τ Mu H0 H' σ' δ' → Z.ct σ' H'
theorem EndsOk.same {Mu : Addr → Prop} {H0 H H' : Hp} {n : Nat} {K : DEnds} {Z : Ends} (e : EndsOk τ Mu H0 H n K Z) (s : Same τ H H') : EndsOk τ Mu H0 H' n K Z :=
  ⟨fun a b c d l f g => e.nx a b c d l (s.trans f) g, fun a b c d f g => e.rt a b c d (s.trans f) g, fun a b c d l f g => e.bk a b c d l (s.trans f) g, fun a b c d l f g => e.ct a b c d l (s.trans f) g⟩
def LS (τ : Tbs) (Mu : Addr → Prop) (H0 : Hp) (n : Nat) (t : DTS) : TS := fun Z σ H => σ.length = n ∧ ∃ δ K, ES τ Mu H0 H σ δ ∧ t K δ ∧ EndsOk τ Mu H0 H n K Z
def LG (τ : Tbs) (Mu : Addr → Prop) (H0 : Hp) (n : Nat) (t : DG) : TG := fun v σ H Q => σ.length = n ∧ ∃ d δ K, ES τ Mu H0 H σ δ ∧ R Mu H v d ∧ t d δ K ∧ ∀ δ', K δ' → ∀ σ' H', σ'.length = n → Same τ H H' → ES τ Mu H0 H' σ' δ' → Q σ' H'

/-! ### judgements -/
structure PD (τ : Tbs) (X : Cx) (H0 : Hp) (e : Expr) (t : DE) : Prop where
  pe : ∀ Mu, PE X e (LE τ Mu H0 t)
structure PDT (τ : Tbs) (X : Cx) (H0 : Hp) (e : Expr) (t : DT) : Prop where
  pt : ∀ Mu, PT X e (LT τ Mu H0 t)
structure PDW (τ : Tbs) (X : Cx) (H0 : Hp) (e : Expr) (t : DT) : Prop where
  pw : ∀ Mu, PW X e (LT τ Mu H0 t)
structure PDA (τ : Tbs) (X : Cx) (H0 : Hp) (es : List Expr) (t : DA) : Prop where
  pa : ∀ Mu, PA X es (LA τ Mu H0 t)
structure PDS (τ : Tbs) (X : Cx) (H0 : Hp) (st : Stmt) (t : DTS) : Prop where
  ps : ∀ Mu, PS X st (LS τ Mu H0 X.N.length t)
structure PDSs (τ : Tbs) (X : Cx) (H0 : Hp) (st : List Stmt) (t : DTS) : Prop where
  pss : ∀ Mu, PSs X st (LS τ Mu H0 X.N.length t)
structure PDG (τ : Tbs) (X : Cx) (H0 : Hp) (e : Expr) (t : DG) : Prop where
  pg : ∀ Mu, PG X e (LG τ Mu H0 X.N.length t)

section
variable {X : Cx}
theorem PE.imp {e : Expr} {t t' : TE} (h : PE X e t) (i : ∀ σ H Q, t' σ H Q → t σ H Q) : PE X e t' := ⟨fun pins s σ H Q I hw => h.run pins s σ H Q I (i σ H Q hw)⟩
theorem PT.imp {e : Expr} {t t' : TT} (h : PT X e t) (i : ∀ σ H Q, t' σ H Q → t σ H Q) : PT X e t' := ⟨fun pins s σ H Q I hw => h.run pins s σ H Q I (i σ H Q hw)⟩
theorem PW.imp {e : Expr} {t t' : TT} (h : PW X e t) (i : ∀ σ H Q, t' σ H Q → t σ H Q) : PW X e t' := ⟨fun wh pins s σ H Q I hw => h.run wh pins s σ H Q I (i σ H Q hw)⟩
theorem PA.imp {e : List Expr} {t t' : TA} (h : PA X e t) (i : ∀ σ H Q, t' σ H Q → t σ H Q) : PA X e t' := ⟨fun pos pins s σ H Q I hw => h.run pos pins s σ H Q I (i σ H Q hw)⟩
theorem PS.imp {e : Stmt} {t t' : TS} (h : PS X e t) (i : ∀ Z σ H, σ.length = X.N.length → t' Z σ H → t Z σ H) : PS X e t' := ⟨fun pins s σ H Z I hw => h.run pins s σ H Z I (i Z σ H I.len hw)⟩
theorem PSs.imp {e : List Stmt} {t t' : TS} (h : PSs X e t) (i : ∀ Z σ H, σ.length = X.N.length → t' Z σ H → t Z σ H) : PSs X e t' := ⟨fun pins s σ H Z I hw => h.run pins s σ H Z I (i Z σ H I.len hw)⟩
theorem PG.imp {e : Expr} {t t' : TG} (h : PG X e t) (i : ∀ v σ H Q, t' v σ H Q → t v σ H Q) : PG X e t' := ⟨fun pins s σ H v u Q I r hw => h.run pins s σ H v u Q I r (i v σ H Q hw)⟩
end
end Gf
namespace Gf
open PySem PySem.Spec PyProof.Rows L2
variable {τ : Tbs}
section
variable {X : Cx} {H0 : Hp} {pos : Pos}
/-! ### names, constants -/
def dAt (δ : DSt) (i : Nat) : Option D := (δ[i]?).join
theorem dAt_some {δ : DSt} {i : Nat} {d : D} (h : dAt δ i = some d) : δ[i]? = some (some d) := by
  unfold dAt at h
  cases e : δ[i]? with
  | none => rw [e] at h; cases h
  | some o =>
    rw [e] at h
    have h' : o = some d := h
    rw [h']
def dVar (i : Nat) : DE := fun δ K => match dAt δ i with | some d => K d | none => False
theorem dv (i : Nat) {x : Str} (hN : X.N[i]? = some x := by rfl) (hv : Vis X.env.scope x := by first | exact Or.inl rfl | exact Or.inr (Or.inl rfl) | exact Or.inr (Or.inr rfl)) (hd : (x == ("__debug__" : Str)) = false := by decide)
    (hcd : (x == ("__classdict__" : Str)) = false := by decide) : PD τ X H0 (.Name x pos) (dVar i) := by
  refine ⟨fun Mu => PE.imp (pe_var (i := i) hN hv hd hcd) fun σ H Q h => ?_⟩
  obtain ⟨δ, K, e, h, q⟩ := h
  unfold dVar at h
  split at h
  · rename_i d hd
    obtain ⟨v, e1, r⟩ := e.at_ i d (dAt_some hd)
    exact ⟨v, e1, q d h v H (Same.refl H) r⟩
  · exact h.elim
def dC (d : D) : DE := fun _ K => K d
theorem pd_c {e : Expr} {d : D} {v : V} (h : PE X e (tC v)) (r : ∀ Mu H, R Mu H v d) : PD τ X H0 e (dC d) :=
  ⟨fun Mu => PE.imp h fun σ H Q ⟨δ, K, e, h, q⟩ => q d h v H (Same.refl H) (r Mu H)⟩
theorem pd_int {i : Int} {j} : PD τ X H0 (.Constant (.int i) j pos) (dC (.int i)) := pd_c pe_int fun _ _ => .int i
theorem pd_bl {b : Bool} {j} : PD τ X H0 (.Constant (.bool b) j pos) (dC (.bl b)) := pd_c pe_bl fun _ _ => .bl b
theorem pd_non {j} : PD τ X H0 (.Constant .none j pos) (dC .non) := pd_c pe_non fun _ _ => .non
theorem pd_str {x : Str} {j} : PD τ X H0 (.Constant (.str x) j pos) (dC (.str x)) := pd_c pe_str fun _ _ => .str x
theorem pd_glob {x : Str} {v : V} {u : Value} {d : D} (hg : Gl X x) (hm : X.mg x = some u) (r : RelV v u) (rd : ∀ Mu H, R Mu H v d) (hd : (x == ("__debug__" : Str)) = false := by decide) : PD τ X H0 (.Name x pos) (dC d) :=
  pd_c (pe_glob hg hm r hd) rd
/-- a builtin type, a class, as a value -/
theorem pd_ty {x : Str} {n : String} (hg : Gl X x) (hm : X.mg x = none) (hv : bootBuiltins x = some (.type n)) (hn : x ≠ "__name__" := by decide) (hd : (x == ("__debug__" : Str)) = false := by decide) : PD τ X H0 (.Name x pos) (dC (.raw (.ty n))) :=
  pd_c (pe_bltn (v := .ty n) hg hm hv rfl hn hd) fun _ _ => .raw _

/-! ### operators -/
abbrev O2 := D → D → DK → Prop
def rD (τ : Tbs) (Mu : Addr → Prop) (op : O2) : R2 := fun x y H Q => ∃ dx dy K, MuT Mu H ∧ R Mu H x dx ∧ R Mu H y dy ∧ op dx dy K ∧ ∀ d, K d → ∀ v H', Same τ H H' → R Mu H' v d → Q v H'
def OpD (τ : Tbs) (X : Cx) (f : Value → Value → Sem Value) (op : O2) : Prop := ∀ Mu, OpR X f (rD τ Mu op)
variable {a b c e : Expr} {es : List Expr} {ta tb tc te : DE} {tA tB : DT} {rest : List Expr}
def dBin (op : O2) (ta tb : DE) : DE := fun δ K => ta δ fun x => tb δ fun y => op x y K
theorem LE.bin {Mu : Addr → Prop} {op : O2} {σ : L2.St} {H : Hp} {Q : VK} (h : LE τ Mu H0 (dBin op ta tb) σ H Q) : tOp (rD τ Mu op) (LE τ Mu H0 ta) (LE τ Mu H0 tb) σ H Q := by
  obtain ⟨δ, K, e, h, q⟩ := h
  exact ⟨δ, _, e, h, fun d1 h1 v1 H1 s1 r1 => ⟨δ, _, e.same s1, h1, fun d2 h2 v2 H2 s2 r2 => ⟨d1, d2, K, e.mu.same (s1.trans s2), r1.same s2, r2, h2, fun d hd v H' s r => q d hd v H' (s1.trans (s2.trans s)) r⟩⟩⟩
theorem pd_op {op : Operator} {o : O2} (ho : OpD τ X (binaryOp op) o) (ha : PD τ X H0 a ta) (hb : PD τ X H0 b tb) : PD τ X H0 (.BinOp a op b pos) (dBin o ta tb) :=
  ⟨fun Mu => PE.imp (pe_op (ho Mu) (ha.pe Mu) (hb.pe Mu)) fun _ _ _ h => h.bin⟩
theorem pd_cmp {op : CmpOp} {o : O2} (ho : OpD τ X (compareOp op) o) (ha : PD τ X H0 a ta) (hb : PD τ X H0 b tb) (hm : behindInMarks op b = false) : PD τ X H0 (.Compare a [op] [b] pos) (dBin o ta tb) :=
  ⟨fun Mu => PE.imp (pe_cmpR (ho Mu) (ha.pe Mu) (hb.pe Mu) hm) fun _ _ _ h => h.bin⟩
/-- a value that is a bool, as a test -/
def dTest (t : DE) : DT := fun δ K => t δ fun d => match d with | .bl k => K k | _ => False
theorem LT.test {Mu : Addr → Prop} {t : DE} {tt : TE} {σ : L2.St} {H : Hp} {Q : Bool → Hp → Prop} (i : ∀ Q, LE τ Mu H0 t σ H Q → tt σ H Q) (h : LT τ Mu H0 (dTest t) σ H Q) : tt σ H fun x H' => ∃ k, x = .bl k ∧ Q k H' := by
  obtain ⟨δ, K, e, h, q⟩ := h
  refine i _ ⟨δ, _, e, h, fun d hd v H' s r => ?_⟩
  split at hd
  · cases r
    exact ⟨_, rfl, q _ hd H' s⟩
  · exact hd.elim
theorem pdt_cmp {op : CmpOp} {o : O2} (ho : OpD τ X (compareOp op) o) (ha : PD τ X H0 a ta) (hb : PD τ X H0 b tb) (hm : behindInMarks op b = false) : PDT τ X H0 (.Compare a [op] [b] pos) (dTest (dBin o ta tb)) :=
  ⟨fun Mu => PT.imp (pt_cmpR (ho Mu) (ha.pe Mu) (hb.pe Mu) hm) fun _ _ _ h => LT.test (fun _ z => z.bin) h⟩
theorem pdt_val (h : PD τ X H0 e te) (he : ∀ whole, isTrue e X.env whole = (do let v ← whole; standAt e.pos; holding [v] (truthy v)) := by intro _; rfl) : PDT τ X H0 e (dTest te) :=
  ⟨fun Mu => PT.imp (pt_val (h.pe Mu) he) fun _ _ _ h => LT.test (fun _ z => z) h⟩
/-- a <= b <= c -/
def dChain (o o' : O2) (ta tb tc : DE) : DE := fun δ K => ta δ fun x => tb δ fun y => o x y fun z => match z with | .bl true => tc δ fun w => o' y w K | .bl false => K (.bl false) | _ => False
theorem LE.chain {Mu : Addr → Prop} {o o' : O2} {σ : L2.St} {H : Hp} {Q : VK} (h : LE τ Mu H0 (dChain o o' ta tb tc) σ H Q) : tChain (rD τ Mu o) (rD τ Mu o') (LE τ Mu H0 ta) (LE τ Mu H0 tb) (LE τ Mu H0 tc) σ H Q := by
  obtain ⟨δ, K, e, h, q⟩ := h
  refine ⟨δ, _, e, h, fun d1 h1 v1 H1 s1 r1 => ⟨δ, _, e.same s1, h1, fun d2 h2 v2 H2 s2 r2 => ⟨d1, d2, _, e.mu.same (s1.trans s2), r1.same s2, r2, h2, fun d hd v H3 s3 r => ?_⟩⟩⟩
  split at hd
  · cases r
    refine ⟨true, rfl, iteT ?_⟩
    exact ⟨δ, _, e.same (s1.trans (s2.trans s3)), hd, fun d4 h4 v4 H4 s4 r4 => ⟨d2, d4, K, e.mu.same (s1.trans (s2.trans (s3.trans s4))), r2.same (s3.trans s4), r4, h4, fun d5 hd5 v5 H5 s5 r5 => q d5 hd5 v5 H5 (s1.trans (s2.trans (s3.trans (s4.trans s5)))) r5⟩⟩
  · cases r
    exact ⟨false, rfl, iteF (q _ hd _ H3 (s1.trans (s2.trans s3)) (.bl false))⟩
  · exact hd.elim
theorem pd_chain {op op' : CmpOp} {o o' : O2} (ho : OpD τ X (compareOp op) o) (ho' : OpD τ X (compareOp op') o') (ha : PD τ X H0 a ta) (hb : PD τ X H0 b tb) (hc : PD τ X H0 c tc)
    (hm : lastMarks [op, op'] [b, c] = false := by with_unfolding_all rfl) : PD τ X H0 (.Compare a [op, op'] [b, c] pos) (dChain o o' ta tb tc) :=
  ⟨fun Mu => PE.imp (pe_chain (ho Mu) (ho' Mu) (ha.pe Mu) (hb.pe Mu) (hc.pe Mu) hm) fun _ _ _ h => h.chain⟩
theorem pdt_chain {op op' : CmpOp} {o o' : O2} (ho : OpD τ X (compareOp op) o) (ho' : OpD τ X (compareOp op') o') (ha : PD τ X H0 a ta) (hb : PD τ X H0 b tb) (hc : PD τ X H0 c tc)
    (hm : lastMarks [op, op'] [b, c] = false := by with_unfolding_all rfl) : PDT τ X H0 (.Compare a [op, op'] [b, c] pos) (dTest (dChain o o' ta tb tc)) :=
  ⟨fun Mu => PT.imp (pt_chain (ho Mu) (ho' Mu) (ha.pe Mu) (hb.pe Mu) (hc.pe Mu) hm) fun _ _ _ h => LT.test (fun _ z => z.chain) h⟩

/-! ### one place -/
abbrev O1 := D → DK → Prop
def rD1 (τ : Tbs) (Mu : Addr → Prop) (op : O1) : V → Hp → VK → Prop := fun x H Q => ∃ dx K, MuT Mu H ∧ R Mu H x dx ∧ op dx K ∧ ∀ d, K d → ∀ v H', Same τ H H' → R Mu H' v d → Q v H'
def dUn (op : O1) (ta : DE) : DE := fun δ K => ta δ fun x => op x K
theorem LE.un {Mu : Addr → Prop} {op : O1} {σ : L2.St} {H : Hp} {Q : VK} (h : LE τ Mu H0 (dUn op ta) σ H Q) : LE τ Mu H0 ta σ H fun x H1 => rD1 τ Mu op x H1 Q := by
  obtain ⟨δ, K, e, h, q⟩ := h
  exact ⟨δ, _, e, h, fun d1 h1 v1 H1 s1 r1 => ⟨d1, K, e.mu.same s1, r1, h1, fun d hd v H' s r => q d hd v H' (s1.trans s) r⟩⟩
def dNeg : O1 := fun x K => match x with | .int i => K (.int (-i)) | _ => False
theorem pd_neg (ha : PD τ X H0 a ta) : PD τ X H0 (.UnaryOp .USub a pos) (dUn dNeg ta) := by
  refine ⟨fun Mu => PE.imp (pe_un un_neg (ha.pe Mu)) fun σ H Q h => ?_⟩
  obtain ⟨δ, K, e, h, q⟩ := h
  refine ⟨δ, _, e, h, fun d1 h1 v1 H1 s1 r1 => ?_⟩
  unfold dNeg at h1
  split at h1
  · cases r1
    exact ⟨_, rfl, q _ h1 _ H1 s1 (.int _)⟩
  · exact h1.elim
def dNot (ta : DE) : DE := fun δ K => ta δ fun x => match x with | .bl k => K (.bl (!k)) | _ => False
theorem pd_not (ha : PD τ X H0 a ta) : PD τ X H0 (.UnaryOp .Not a pos) (dNot ta) := by
  refine ⟨fun Mu => PE.imp (pe_not (ha.pe Mu)) fun σ H Q h => ?_⟩
  obtain ⟨δ, K, e, h, q⟩ := h
  refine ⟨δ, _, e, h, fun d1 h1 v1 H1 s1 r1 => ?_⟩
  split at h1
  · cases r1
    exact ⟨_, rfl, q _ h1 _ H1 s1 (.bl _)⟩
  · exact h1.elim
def dtNot (t : DT) : DT := fun δ K => t δ fun c => K (!c)
theorem pdt_not (ha : PDT τ X H0 a tA) : PDT τ X H0 (.UnaryOp .Not a pos) (dtNot tA) :=
  ⟨fun Mu => PT.imp (pt_not (ha.pt Mu)) fun σ H Q ⟨δ, K, e, h, q⟩ => ⟨δ, _, e, h, fun b hb H' s => q (!b) hb H' s⟩⟩

/-! ### and, or, if -/
def dtAnd (t u : DT) : DT := fun δ K => t δ fun c => if c = true then u δ K else K false
def dtOr (t u : DT) : DT := fun δ K => t δ fun c => if c = true then K true else u δ K
theorem pdw_and1 (ha : PDT τ X H0 a tA) : PDW τ X H0 (.BoolOp .And [a] pos) tA := ⟨fun Mu => pw_and1 (ha.pt Mu)⟩
theorem pdw_or1 (ha : PDT τ X H0 a tA) : PDW τ X H0 (.BoolOp .Or [a] pos) tA := ⟨fun Mu => pw_or1 (ha.pt Mu)⟩
theorem pdw_and (ha : PDT τ X H0 a tA) (hb : PDW τ X H0 (.BoolOp .And (b :: rest) pos) tB) : PDW τ X H0 (.BoolOp .And (a :: b :: rest) pos) (dtAnd tA tB) := by
  refine ⟨fun Mu => PW.imp (pw_and (ha.pt Mu) (hb.pw Mu)) fun σ H Q ⟨δ, K, e, h, q⟩ => ⟨δ, _, e, h, fun k hk H' s => ?_⟩⟩
  cases k with
  | true => exact iteT ⟨δ, K, e.same s, (by simpa using hk), fun b hb H2 s2 => q b hb H2 (s.trans s2)⟩
  | false => exact iteF (q false (by simpa using hk) H' s)
theorem pdw_or (ha : PDT τ X H0 a tA) (hb : PDW τ X H0 (.BoolOp .Or (b :: rest) pos) tB) : PDW τ X H0 (.BoolOp .Or (a :: b :: rest) pos) (dtOr tA tB) := by
  refine ⟨fun Mu => PW.imp (pw_or (ha.pt Mu) (hb.pw Mu)) fun σ H Q ⟨δ, K, e, h, q⟩ => ⟨δ, _, e, h, fun k hk H' s => ?_⟩⟩
  cases k with
  | true => exact iteT (q true (by simpa using hk) H' s)
  | false => exact iteF ⟨δ, K, e.same s, (by simpa using hk), fun b hb H2 s2 => q b hb H2 (s.trans s2)⟩
theorem PDW.pdt (h : PDW τ X H0 a tA) : PDT τ X H0 a tA := ⟨fun Mu => (h.pw Mu).pt⟩
def dAnd (ta tb : DE) : DE := fun δ K => ta δ fun x => match x with | .bl true => tb δ K | .bl false => K (.bl false) | _ => False
def dOr (ta tb : DE) : DE := fun δ K => ta δ fun x => match x with | .bl true => K (.bl true) | .bl false => tb δ K | _ => False
theorem pd_one {op} (ha : PD τ X H0 a ta) : PD τ X H0 (.BoolOp op [a] pos) ta := ⟨fun Mu => pe_one (ha.pe Mu)⟩
theorem pd_and (ha : PD τ X H0 a ta) (hb : PD τ X H0 (.BoolOp .And (b :: rest) pos) tb) : PD τ X H0 (.BoolOp .And (a :: b :: rest) pos) (dAnd ta tb) := by
  refine ⟨fun Mu => PE.imp (pe_and (ha.pe Mu) (hb.pe Mu)) fun σ H Q ⟨δ, K, e, h, q⟩ => ⟨δ, _, e, h, fun d hd v H' s r => ?_⟩⟩
  split at hd
  · cases r
    exact ⟨true, rfl, iteT ⟨δ, K, e.same s, hd, fun d2 h2 v2 H2 s2 r2 => q d2 h2 v2 H2 (s.trans s2) r2⟩⟩
  · cases r
    exact ⟨false, rfl, iteF (q _ hd _ H' s (.bl false))⟩
  · exact hd.elim
theorem pd_or (ha : PD τ X H0 a ta) (hb : PD τ X H0 (.BoolOp .Or (b :: rest) pos) tb) : PD τ X H0 (.BoolOp .Or (a :: b :: rest) pos) (dOr ta tb) := by
  refine ⟨fun Mu => PE.imp (pe_or (ha.pe Mu) (hb.pe Mu)) fun σ H Q ⟨δ, K, e, h, q⟩ => ⟨δ, _, e, h, fun d hd v H' s r => ?_⟩⟩
  split at hd
  · cases r
    exact ⟨true, rfl, iteT (q _ hd _ H' s (.bl true))⟩
  · cases r
    exact ⟨false, rfl, iteF ⟨δ, K, e.same s, hd, fun d2 h2 v2 H2 s2 r2 => q d2 h2 v2 H2 (s.trans s2) r2⟩⟩
  · exact hd.elim
def dIf (t : DT) (ta tb : DE) : DE := fun δ K => t δ fun c => if c = true then ta δ K else tb δ K
theorem pd_if (hc : PDT τ X H0 c tA) (ha : PD τ X H0 a ta) (hb : PD τ X H0 b tb) : PD τ X H0 (.IfExp c a b pos) (dIf tA ta tb) := by
  refine ⟨fun Mu => PE.imp (pe_ifExp (hc.pt Mu) (ha.pe Mu) (hb.pe Mu)) fun σ H Q ⟨δ, K, e, h, q⟩ => ⟨δ, _, e, h, fun k hk H' s => ?_⟩⟩
  cases k with
  | true => exact iteT ⟨δ, K, e.same s, (by simpa using hk), fun d2 h2 v2 H2 s2 r2 => q d2 h2 v2 H2 (s.trans s2) r2⟩
  | false => exact iteF ⟨δ, K, e.same s, (by simpa using hk), fun d2 h2 v2 H2 s2 r2 => q d2 h2 v2 H2 (s.trans s2) r2⟩

/-! ### displays, arguments -/
def dNil : DA := fun _ K => K []
def dCons (ta : DE) (tr : DA) : DA := fun δ K => ta δ fun x => tr δ fun xs => K (x :: xs)
variable {t : DA}
theorem pda_nil : PDA τ X H0 [] dNil := ⟨fun Mu => PA.imp pa_nil fun σ H Q ⟨δ, K, e, h, q⟩ => q [] h [] H (Same.refl H) .nil⟩
theorem pda_cons (ha : PD τ X H0 e te) (hr : PDA τ X H0 es t) (hs : starEach (e :: es) X.env = (false, eval e X.env) :: starEach es X.env := by rfl) : PDA τ X H0 (e :: es) (dCons te t) :=
  ⟨fun Mu => PA.imp (pa_cons (ha.pe Mu) (hr.pa Mu) hs) fun σ H Q ⟨δ, K, e, h, q⟩ => ⟨δ, _, e, h, fun d1 h1 v1 H1 s1 r1 => ⟨δ, _, e.same s1, h1, fun ds h2 vs H2 s2 r2 => q _ h2 _ H2 (s1.trans s2) (.cons (r1.same s2) r2)⟩⟩⟩
def dTup (t : DA) : DE := fun δ K => t δ fun ds => ds.length ≤ sizeLine ∧ K (.tup ds)
def dLst (t : DA) : DE := fun δ K => t δ fun ds => ds.length ≤ sizeLine ∧ K (.lst ds)
theorem pd_tup {x1} (h : PDA τ X H0 es t) : PD τ X H0 (.Tuple es x1 pos) (dTup t) :=
  ⟨fun Mu => PE.imp (pe_tup (h.pa Mu)) fun σ H Q ⟨δ, K, e, h, q⟩ => ⟨δ, _, e, h, fun ds h1 vs H1 s1 r1 => ⟨by rw [r1.length]; exact h1.1, fun p hp => q _ h1.2 _ _ (s1.trans (same_new (τ := τ) hp)) (.tup upd_same (r1.same (same_new (τ := τ) hp)))⟩⟩⟩
theorem pd_lst (h : PDA τ X H0 es t) : PD τ X H0 (.List es pos) (dLst t) :=
  ⟨fun Mu => PE.imp (pe_lst (h.pa Mu)) fun σ H Q ⟨δ, K, e, h, q⟩ => ⟨δ, _, e, h, fun ds h1 vs H1 s1 r1 => ⟨by rw [r1.length]; exact h1.1, fun p hp => q _ h1.2 _ _ (s1.trans (same_new (τ := τ) hp)) (.lst upd_same ((e.mu.same s1).fresh hp) (r1.same (same_new (τ := τ) hp)))⟩⟩⟩

/-! ### calls -/
abbrev FD := List D → DK → Prop
/-- a promise over data -/
def spD (τ : Tbs) (n : Nat) (F : FD) : Sp := fun vs H Q _ => ∃ Mu ds K, MuT Mu H ∧ RA Mu H vs ds ∧ ds.length = n ∧ F ds K ∧ ∀ d, K d → ∀ v H', Same τ H H' → R Mu H' v d → Q v H'
def dCall (n : Nat) (F : FD) (t : DA) : DE := fun δ K => t δ fun ds => ds.length = n ∧ F ds K
theorem LA.call {Mu : Addr → Prop} {n : Nat} {F : FD} {σ : L2.St} {H : Hp} {Q : VK} {E : XK} (h : LE τ Mu H0 (dCall n F t) σ H Q) : tCall (spD τ n F) [] E (LA τ Mu H0 t) σ H Q := by
  obtain ⟨δ, K, e, h, q⟩ := h
  exact ⟨δ, _, e, h, fun ds h1 vs H1 s1 r1 => ⟨Mu, ds, K, e.mu.same s1, by rw [List.append_nil]; exact r1, h1.1, h1.2, fun d hd v H' s r => q d hd v H' (s1.trans s) r⟩⟩
theorem pd_call {k n : Nat} {F : FD} {f : Addr} {fd : FuncData} {ps : List Str} {x : Str} {p : Pos} {CX : CXT} {E : XK} (G : FnOk X.prog X.w X.K X.mg X.base CX k f fd ps (spD τ n F)) (hr : Room k X.A) (hg : Gl X x) (hm : X.mg x = some (.ref f))
    (hk : PySem.W.keepIn X.K (.ref f) = true) (hb : Binds X.K fd ps []) (hx : Passes CX X E) (ha : PDA τ X H0 (e :: es) t) (hdb : (x == ("__debug__" : Str)) = false := by decide)
    (he : starEach (e :: es) X.env = (false, eval e X.env) :: starEach es X.env := by rfl) (hpl : (backTo pos (starEach es X.env)).any (·.1) = false := by rfl) : PD τ X H0 (.Call (.Name x p) (e :: es) [] pos) (dCall n F t) :=
  ⟨fun Mu => PE.imp (pe_call (dvs := []) G hr hg hm hk hb .nil hx (ha.pa Mu) hdb he hpl) fun _ _ _ h => LA.call h⟩
/-- a builtin by values -/
def rDA (τ : Tbs) (Mu : Addr → Prop) (F : FD) : List V → Hp → VK → Prop := fun vs H Q => ∃ ds K, MuT Mu H ∧ RA Mu H vs ds ∧ F ds K ∧ ∀ d, K d → ∀ v H', Same τ H H' → R Mu H' v d → Q v H'
def CallD (τ : Tbs) (X : Cx) (f : Value) (F : FD) : Prop := ∀ Mu, CallR X f (rDA τ Mu F)
def dCB (F : FD) (t : DA) : DE := fun δ K => t δ fun ds => F ds K
theorem LE.cb {Mu : Addr → Prop} {F : FD} {σ : L2.St} {H : Hp} {Q : VK} (h : LE τ Mu H0 (dCB F t) σ H Q) : tCB (rDA τ Mu F) (LA τ Mu H0 t) σ H Q := by
  obtain ⟨δ, K, e, h, q⟩ := h
  exact ⟨δ, _, e, h, fun ds h1 vs H1 s1 r1 => ⟨ds, K, e.mu.same s1, r1, h1, fun d hd v H' s r => q d hd v H' (s1.trans s) r⟩⟩
theorem pd_callB {id : String} {x : Str} {p : Pos} {F : FD} (hc : CallD τ X (.builtin id) F) (hg : Gl X x) (hm : X.mg x = none) (hv : bootBuiltins x = some (.builtin id)) (ha : PDA τ X H0 (e :: es) t)
    (hn : x ≠ "__name__" := by decide) (hdb : (x == ("__debug__" : Str)) = false := by decide)
    (he : starEach (e :: es) X.env = (false, eval e X.env) :: starEach es X.env := by rfl) (hpl : (backTo pos (starEach es X.env)).any (·.1) = false := by rfl) : PD τ X H0 (.Call (.Name x p) (e :: es) [] pos) (dCB F t) :=
  ⟨fun Mu => PE.imp (pe_callB (hc Mu) hg hm hv (ha.pa Mu) hn hdb he hpl) fun _ _ _ h => h.cb⟩
theorem pd_callTy {T : String} {x : Str} {p : Pos} {F : FD} (hc : CallD τ X (.type T) F) (hg : Gl X x) (hm : X.mg x = none) (hv : bootBuiltins x = some (.type T)) (ha : PDA τ X H0 (e :: es) t)
    (hn : x ≠ "__name__" := by decide) (hdb : (x == ("__debug__" : Str)) = false := by decide)
    (he : starEach (e :: es) X.env = (false, eval e X.env) :: starEach es X.env := by rfl) (hpl : (backTo pos (starEach es X.env)).any (·.1) = false := by rfl) : PD τ X H0 (.Call (.Name x p) (e :: es) [] pos) (dCB F t) :=
  ⟨fun Mu => PE.imp (pe_callTy (hc Mu) hg hm hv (ha.pa Mu) hn hdb he hpl) fun _ _ _ h => h.cb⟩
end
end Gf
namespace Gf
open PySem PySem.Spec PyProof.Rows L2
variable {τ : Tbs}
section
variable {X : Cx} {H0 : Hp} {pos : Pos}
/-! ### arithmetic -/
def dAdd : O2 := fun x y K => match x, y with
  | .int i, .int j => K (.int (i + j))
  | .tup xs, .tup ys => xs.length + ys.length ≤ sizeLine ∧ K (.tup (xs ++ ys))
  | .lst xs, .lst ys => xs.length + ys.length ≤ sizeLine ∧ K (.lst (xs ++ ys))
  | .str a, .str b => a.length + b.length ≤ sizeLine ∧ K (.str (a ++ b))
  | _, _ => False
theorem od_add : OpD τ X (binaryOp .Add) dAdd := by
  intro Mu pins s σ H x y v u Q I rx ry h
  obtain ⟨dx, dy, K, mu, r1, r2, h, q⟩ := h
  unfold dAdd at h
  split at h
  · cases r1; cases r2
    exact op_add pins s σ H _ _ v u Q I rx ry ⟨_, _, rfl, rfl, q _ h _ H (Same.refl H) (.int _)⟩
  · cases r1 with
    | tup a1 a2 =>
      cases r2 with
      | tup b1 b2 =>
        refine op_catA pins s σ H _ _ v u Q I rx ry ⟨_, _, _, _, rfl, rfl, .of a1, .of b1, by rw [a2.length, b2.length]; exact h.1, fun e => ?_, fun _ e => ?_, fun _ _ p hp => q _ h.2 _ _ (same_new (τ := τ) hp) (.tup upd_same ((a2.app b2).same (same_new (τ := τ) hp)))⟩
        · subst e
          cases a2
          exact q _ h.2 _ H (Same.refl H) (.tup b1 b2)
        · subst e
          cases b2
          exact q _ h.2 _ H (Same.refl H) (.tup a1 (by rw [List.append_nil]; exact a2))
  · cases r1 with
    | lst a1 a3 a2 =>
      cases r2 with
      | lst b1 b3 b2 =>
        exact op_cat pins s σ H _ _ v u Q I rx ry ⟨_, _, _, _, rfl, rfl, a1, b1, by rw [a2.length, b2.length]; exact h.1, fun p hp => q _ h.2 _ _ (same_new (τ := τ) hp) (.lst upd_same (mu.fresh hp) ((a2.app b2).same (same_new (τ := τ) hp)))⟩
  · cases r1; cases r2
    exact op_add_str pins s σ H _ _ v u Q I rx ry ⟨_, _, rfl, rfl, h.1, q _ h.2 _ H (Same.refl H) (.str _)⟩
  · exact h.elim
def dSub : O2 := fun x y K => match x, y with | .int i, .int j => K (.int (i - j)) | _, _ => False
/-- two ints, by a rule -/
theorem od_int {f : Value → Value → Sem Value} {C : Int → Int → Prop} {g : Int → Int → V} {g' : Int → Int → D} (h : OpR X f (rI C g)) (hg : ∀ Mu H i j, R Mu H (g i j) (g' i j)) : OpD τ X f (fun x y K => match x, y with | .int i, .int j => C i j ∧ K (g' i j) | _, _ => False) := by
  intro Mu pins s σ H x y v u Q I rx ry h'
  obtain ⟨dx, dy, K, mu, r1, r2, hh, q⟩ := h'
  split at hh
  · cases r1; cases r2
    exact h pins s σ H _ _ v u Q I rx ry ⟨_, _, rfl, rfl, hh.1, q _ hh.2 _ H (Same.refl H) (hg _ _ _ _)⟩
  · exact hh.elim
theorem od_int0 {f : Value → Value → Sem Value} {g : Int → Int → V} {g' : Int → Int → D} (h : OpR X f (rI0 g)) (hg : ∀ Mu H i j, R Mu H (g i j) (g' i j)) : OpD τ X f (fun x y K => match x, y with | .int i, .int j => K (g' i j) | _, _ => False) := by
  intro Mu pins s σ H x y v u Q I rx ry h'
  obtain ⟨dx, dy, K, mu, r1, r2, hh, q⟩ := h'
  split at hh
  · cases r1; cases r2
    exact h pins s σ H _ _ v u Q I rx ry ⟨_, _, rfl, rfl, q _ hh _ H (Same.refl H) (hg _ _ _ _)⟩
  · exact hh.elim
theorem od_sub : OpD τ X (binaryOp .Sub) dSub := od_int0 (g' := fun i j => .int (i - j)) op_sub fun _ _ _ _ => .int _
def dFdiv : O2 := fun x y K => match x, y with | .int i, .int j => CDivW i j ∧ K (.int (i / j)) | _, _ => False
theorem od_fdiv : OpD τ X (binaryOp .FloorDiv) dFdiv := od_int (g' := fun i j => .int (i / j)) op_fdivW fun _ _ _ _ => .int _
def dMod : O2 := fun x y K => match x, y with | .int i, .int j => 0 < j ∧ K (.int (i % j)) | _, _ => False
theorem od_mod : OpD τ X (binaryOp .Mod) dMod := od_int (g' := fun i j => .int (i % j)) op_mod fun _ _ _ _ => .int _
def dPow : O2 := fun x y K => match x, y with | .int i, .int j => CPow i j ∧ K (.int (i ^ j.toNat)) | _, _ => False
theorem od_pow : OpD τ X (binaryOp .Pow) dPow := od_int (g' := fun i j => .int (i ^ j.toNat)) op_pow fun _ _ _ _ => .int _
def MulOk (i j : Int) : Prop := CMul i j ∨ CMulW i j
theorem op_mulA : OpR X (binaryOp .Mult) (rI MulOk fun i j => .int (i * j)) := opI fun _ _ _ _ _ _ _ hc q => mul_int q (hc.elim (fun h => h.ok) fun h => h.ok)
def dMul : O2 := fun x y K => match x, y with
  | .int i, .int j => MulOk i j ∧ K (.int (i * j))
  | .lst xs, .int k => (-(2 ^ 63) ≤ k ∧ k < 2 ^ 63 ∧ xs.length * k.toNat ≤ sizeLine) ∧ K (.lst (List.replicate k.toNat xs).flatten)
  | .tup xs, .int k => (xs ≠ [] ∧ 2 ≤ k ∧ k ≤ 1000 ∧ xs.length ≤ 1000) ∧ K (.tup (List.replicate k.toNat xs).flatten)
  | _, _ => False
theorem od_mul : OpD τ X (binaryOp .Mult) dMul := by
  intro Mu pins s σ H x y v u Q I rx ry h
  obtain ⟨dx, dy, K, mu, r1, r2, h, q⟩ := h
  unfold dMul at h
  split at h
  · cases r1; cases r2
    exact op_mulA pins s σ H _ _ v u Q I rx ry ⟨_, _, rfl, rfl, h.1, q _ h.2 _ H (Same.refl H) (.int _)⟩
  · cases r2
    cases r1 with
    | lst a1 a3 a2 =>
      exact op_rep pins s σ H _ _ v u Q I rx ry ⟨_, _, _, rfl, rfl, a1, h.1.1, h.1.2.1, by rw [a2.length]; exact h.1.2.2, fun p hp => q _ h.2 _ _ (same_new (τ := τ) hp) (.lst upd_same (mu.fresh hp) ((a2.rep _).same (same_new (τ := τ) hp)))⟩
  · cases r2
    cases r1 with
    | tup a1 a2 =>
      refine op_repT pins s σ H _ _ v u Q I rx ry ⟨_, _, _, rfl, rfl, .of a1, fun e => h.1.1 ?_, h.1.2.1, h.1.2.2.1, by rw [a2.length]; exact h.1.2.2.2, fun p hp => q _ h.2 _ _ (same_new (τ := τ) hp) (.tup upd_same ((a2.rep _).same (same_new (τ := τ) hp)))⟩
      subst e
      cases a2
      rfl
  · exact h.elim
/-! ### comparisons -/
def dLt : O2 := fun x y K => match x, y with | .int i, .int j => K (.bl (decide (i < j))) | _, _ => False
def dLe : O2 := fun x y K => match x, y with | .int i, .int j => K (.bl (decide (i ≤ j))) | _, _ => False
def dGt : O2 := fun x y K => match x, y with | .int i, .int j => K (.bl (decide (j < i))) | _, _ => False
def dGe : O2 := fun x y K => match x, y with | .int i, .int j => K (.bl (decide (j ≤ i))) | _, _ => False
theorem od_lt : OpD τ X (compareOp .Lt) dLt := od_int0 (g' := fun i j => .bl (decide (i < j))) op_lt fun _ _ _ _ => .bl _
theorem od_le : OpD τ X (compareOp .LtE) dLe := od_int0 (g' := fun i j => .bl (decide (i ≤ j))) op_le fun _ _ _ _ => .bl _
theorem od_gt : OpD τ X (compareOp .Gt) dGt := od_int0 (g' := fun i j => .bl (decide (j < i))) op_gt fun _ _ _ _ => .bl _
theorem od_ge : OpD τ X (compareOp .GtE) dGe := od_int0 (g' := fun i j => .bl (decide (j ≤ i))) op_ge fun _ _ _ _ => .bl _
mutual
def toPy : D → PyData
  | .non => .none
  | .bl b => .bool b
  | .int i => .int i
  | .str x => .str x
  | .tup xs => .tuple (toPys xs)
  | .lst xs => .list (toPys xs)
  | .raw _ => .dict []
  | .spr => .dict []
  | .hob _ => .dict []
  | .fnc _ _ _ _ _ _ => .dict []
def toPys : List D → List PyData
  | [] => []
  | d :: ds => toPy d :: toPys ds
end
mutual
/-- plain data without anything opaque; texts that can be laid -/
def flat : D → Bool
  | .non | .bl _ | .int _ => true
  | .str x => PyData.strOk x
  | .tup xs | .lst xs => flats xs
  | .raw _ | .spr | .hob _ | .fnc _ _ _ _ _ _ => false
def flats : List D → Bool
  | [] => true
  | d :: ds => flat d && flats ds
end
mutual
def deep : D → Nat
  | .tup xs | .lst xs => deeps xs + 1
  | _ => 0
def deeps : List D → Nat
  | [] => 0
  | d :: ds => max (deep d) (deeps ds)
end
mutual
theorem R.dp {Mu : Addr → Prop} {H : Hp} {K : PySem.W.Frag} : ∀ (d : D) (v : V), flat d = true → R Mu H v d → Dp K H v (toPy d)
  | .non, _, _, .non => by rw [toPy]; exact .non
  | .bl _, _, _, .bl _ => by rw [toPy]; exact .bl _
  | .int _, _, _, .int _ => by rw [toPy]; exact .int _
  | .str _, _, _, .str _ => by rw [toPy]; exact .str _
  | .tup ds, _, hf, .tup h1 h2 => by rw [toPy]; exact .tup (.of h1) (RA.dp ds _ (by rw [flat] at hf; exact hf) h2)
  | .lst ds, _, hf, .lst h1 h2 h3 => by rw [toPy]; exact .lst (.of h1) (RA.dp ds _ (by rw [flat] at hf; exact hf) h3)
  | .raw _, _, hf, _ => by rw [flat] at hf; cases hf
  | .spr, _, hf, _ => by rw [flat] at hf; cases hf
  | .hob _, _, hf, _ => by rw [flat] at hf; cases hf
  | .fnc _ _ _ _ _ _, _, hf, _ => by rw [flat] at hf; cases hf
theorem RA.dp {Mu : Addr → Prop} {H : Hp} {K : PySem.W.Frag} : ∀ (ds : List D) (vs : List V), flats ds = true → RA Mu H vs ds → DpAll K H vs (toPys ds)
  | [], _, _, .nil => by rw [toPys]; exact .nil
  | d :: ds, _, hf, .cons h1 h2 => by
    rw [flats, Bool.and_eq_true] at hf
    rw [toPys]
    exact .cons (R.dp d _ hf.1 h1) (RA.dp ds _ hf.2 h2)
end
mutual
theorem canLay_of : ∀ (d : D), flat d = true → (toPy d).canLay0 = true
  | .non, _ => by rw [toPy, PyData.canLay0]
  | .bl _, _ => by rw [toPy, PyData.canLay0]
  | .int _, _ => by rw [toPy, PyData.canLay0]
  | .str _, h => by rw [toPy, PyData.canLay0]; rw [flat] at h; exact h
  | .tup ds, h => by rw [toPy, PyData.canLay0]; exact canLays_of ds (by rw [flat] at h; exact h)
  | .lst ds, h => by rw [toPy, PyData.canLay0]; exact canLays_of ds (by rw [flat] at h; exact h)
  | .raw _, h => by rw [flat] at h; cases h
  | .spr, h => by rw [flat] at h; cases h
  | .hob _, h => by rw [flat] at h; cases h
  | .fnc _ _ _ _ _ _, h => by rw [flat] at h; cases h
theorem canLays_of : ∀ (ds : List D), flats ds = true → PyData.canLayAll0 (toPys ds) = true
  | [], _ => by rw [toPys, PyData.canLayAll0]
  | d :: ds, h => by
    rw [flats, Bool.and_eq_true] at h
    rw [toPys, PyData.canLayAll0, canLay_of d h.1, canLays_of ds h.2]
    rfl
end
mutual
theorem depth_of : ∀ (d : D), flat d = true → (toPy d).depth = deep d
  | .non, _ => by rw [toPy, PyData.depth, deep]; exact fun _ z => nomatch z; exact fun _ z => nomatch z
  | .bl _, _ => by rw [toPy, PyData.depth, deep]; exact fun _ z => nomatch z; exact fun _ z => nomatch z
  | .int _, _ => by rw [toPy, PyData.depth, deep]; exact fun _ z => nomatch z; exact fun _ z => nomatch z
  | .str _, h => by rw [toPy, PyData.depth, deep]; exact fun _ z => nomatch z; exact fun _ z => nomatch z
  | .tup ds, h => by rw [toPy, PyData.depth, deep, depths_of ds (by rw [flat] at h; exact h)]
  | .lst ds, h => by rw [toPy, PyData.depth, deep, depths_of ds (by rw [flat] at h; exact h)]
  | .raw _, h => by rw [flat] at h; cases h
  | .spr, h => by rw [flat] at h; cases h
  | .hob _, h => by rw [flat] at h; cases h
  | .fnc _ _ _ _ _ _, h => by rw [flat] at h; cases h
theorem depths_of : ∀ (ds : List D), flats ds = true → PyData.depthAll (toPys ds) = deeps ds
  | [], _ => by rw [toPys, PyData.depthAll, deeps]
  | d :: ds, h => by
    rw [flats, Bool.and_eq_true] at h
    rw [toPys, PyData.depthAll, deeps, depth_of d h.1, depths_of ds h.2]
end
/-- may be compared -/
def cmpb (d : D) : Prop := flat d = true ∧ deep d ≤ 60
theorem cmpb.shaped {d : D} (h : cmpb d) : SeqAt.shaped (toPy d) = true := by
  unfold SeqAt.shaped
  rw [canLay_of d h.1, depth_of d h.1, decide_eq_true (Nat.le_trans h.2 (by decide))]
  rfl
def eqD (x y : D) : Bool := PyData.eqv (toPy x) (toPy y)
def dEq : O2 := fun x y K => cmpb x ∧ cmpb y ∧ K (.bl (eqD x y))
def dNe : O2 := fun x y K => cmpb x ∧ cmpb y ∧ K (.bl (!eqD x y))
theorem od_eq (hu : X.A.units + 64 < cLine) : OpD τ X (compareOp .Eq) dEq := by
  intro Mu pins s σ H x y v u Q I rx ry h
  obtain ⟨dx, dy, K, mu, r1, r2, h, q⟩ := h
  exact op_eqD hu pins s σ H _ _ v u Q I rx ry ⟨_, _, R.dp dx _ h.1.1 r1, R.dp dy _ h.2.1.1 r2, h.1.shaped, h.2.1.shaped, q _ h.2.2 _ H (Same.refl H) (.bl _)⟩
theorem od_ne (hu : X.A.units + 64 < cLine) : OpD τ X (compareOp .NotEq) dNe := by
  intro Mu pins s σ H x y v u Q I rx ry h
  obtain ⟨dx, dy, K, mu, r1, r2, h, q⟩ := h
  exact op_neD hu pins s σ H _ _ v u Q I rx ry ⟨_, _, R.dp dx _ h.1.1 r1, R.dp dy _ h.2.1.1 r2, h.1.shaped, h.2.1.shaped, q _ h.2.2 _ H (Same.refl H) (.bl _)⟩
/-- is None -/
def isN : D → Bool | .non => true | .raw _ => false | _ => false
def dIsN : O2 := fun x y K => match x, y with | .raw _, _ => False | x, .non => K (.bl (isN x)) | _, _ => False
theorem R.isN {Mu : Addr → Prop} {H : Hp} {v : V} {d : D} (r : R Mu H v d) (h : ∀ w, d ≠ .raw w) : decide (v = .non) = Gf.isN d := by
  cases r <;> first | rfl | exact absurd rfl (h _)
theorem od_isN : OpD τ X (compareOp .Is) dIsN := by
  intro Mu pins s σ H x y v u Q I rx ry h
  obtain ⟨dx, dy, K, mu, r1, r2, h, q⟩ := h
  unfold dIsN at h
  split at h
  · exact h.elim
  · rename_i hn
    have e := r1.isN hn
    cases r2
    refine op_isN pins s σ H _ _ v u Q I rx ry ⟨rfl, ?_⟩
    rw [e]
    exact q _ h _ H (Same.refl H) (.bl _)
  · exact h.elim
def dNotN : O2 := fun x y K => match x, y with | .raw _, _ => False | x, .non => K (.bl (!isN x)) | _, _ => False
theorem od_notN : OpD τ X (compareOp .IsNot) dNotN := by
  intro Mu pins s σ H x y v u Q I rx ry h
  obtain ⟨dx, dy, K, mu, r1, r2, h, q⟩ := h
  unfold dNotN at h
  split at h
  · exact h.elim
  · rename_i hn
    have e := r1.isN hn
    cases r2
    refine op_notN pins s σ H _ _ v u Q I rx ry ⟨rfl, ?_⟩
    rw [e]
    exact q _ h _ H (Same.refl H) (.bl _)
  · exact h.elim

/-! ### subscripts, slices -/
variable {a b c e : Expr} {es : List Expr} {ta tb tc te : DE}
def dIx : O2 := fun x y K => match x, y with
  | .tup xs, .int i | .lst xs, .int i => (match atI xs i with | some d => K d | none => False)
  | _, _ => False
theorem RA.atI {Mu : Addr → Prop} {H : Hp} {vs : List V} {ds : List D} {i : Int} {d : D} (r : RA Mu H vs ds) (h : L2.atI ds i = some d) : ∃ v, L2.atI vs i = some v ∧ R Mu H v d := by
  unfold L2.atI at h ⊢
  rw [r.length]
  cases e : ixN ds.length i with
  | none => rw [e] at h; cases h
  | some j =>
    rw [e] at h
    exact r.get h
theorem pd_ix (hs : PlainIx b) (ha : PD τ X H0 a ta) (hb : PD τ X H0 b tb) : PD τ X H0 (.Subscript a b pos) (dBin dIx ta tb) := by
  refine ⟨fun Mu => PE.imp (pe_ix ix_seq (ha.pe Mu) (hb.pe Mu) hs) fun σ H Q ⟨δ, K, e, h, q⟩ => ⟨δ, _, e, h, fun d1 h1 v1 H1 s1 r1 => ⟨δ, _, e.same s1, h1, fun d2 h2 v2 H2 s2 r2 => ?_⟩⟩⟩
  have s := s1.trans s2
  unfold dIx at h2
  split at h2
  · cases r2
    cases r1 with
    | tup a1 a2 =>
      split at h2
      · rename_i d hd
        obtain ⟨v, e1, r⟩ := a2.atI hd
        exact .inr (.inl ⟨_, _, _, v, rfl, rfl, .of (s2 _ _ a1), e1, q _ h2 _ H2 s (r.same s2)⟩)
      · exact h2.elim
  · cases r2
    cases r1 with
    | lst a1 a3 a2 =>
      split at h2
      · rename_i d hd
        obtain ⟨v, e1, r⟩ := a2.atI hd
        exact .inl ⟨_, _, _, v, rfl, rfl, .of (s2 _ _ a1), e1, q _ h2 _ H2 s (r.same s2)⟩
      · exact h2.elim
  · exact h2.elim
/-- an optional part of a slice -/
abbrev DO := DSt → (Option Int → Prop) → Prop
structure PDO (τ : Tbs) (X : Cx) (H0 : Hp) (e : Option Expr) (t : DO) : Prop where
  po : ∀ Mu, PO X e (fun σ H Q => ∃ δ K, ES τ Mu H0 H σ δ ∧ t δ K ∧ ∀ o, K o → ∀ H', Same τ H H' → Q o H')
def dNoPart : DO := fun _ K => K none
def dPart (t : DE) : DO := fun δ K => t δ fun d => match d with | .int i => K (some i) | _ => False
theorem PO.imp {e : Option Expr} {t t' : TO} (h : PO X e t) (i : ∀ σ H Q, t' σ H Q → t σ H Q) : PO X e t' := ⟨fun pins s σ H Q I hw => h.run pins s σ H Q I (i σ H Q hw)⟩
theorem pdo_none : PDO τ X H0 none dNoPart := ⟨fun Mu => PO.imp po_none fun σ H Q ⟨δ, K, e, h, q⟩ => q none h H (Same.refl H)⟩
theorem pdo_some (h : PD τ X H0 e te) : PDO τ X H0 (some e) (dPart te) := by
  refine ⟨fun Mu => PO.imp (po_some (h.pe Mu)) fun σ H Q ⟨δ, K, e, h, q⟩ => ⟨δ, _, e, h, fun d hd v H' s r => ?_⟩⟩
  split at hd
  · cases r
    exact ⟨_, rfl, q _ hd H' s⟩
  · exact hd.elim
def cut {α : Type} (xs : List α) (lo hi : Option Int) : List α := (xs.drop (HT.sIx xs.length 0 lo)).take (HT.sIx xs.length xs.length hi - HT.sIx xs.length 0 lo)
theorem RA.cut {Mu : Addr → Prop} {H : Hp} {vs : List V} {ds : List D} (r : RA Mu H vs ds) (lo hi : Option Int) : RA Mu H (cutV vs lo hi) (Gf.cut ds lo hi) := by
  unfold cutV Gf.cut
  rw [r.length]
  exact (r.drop _).take _
theorem cut_whole {α : Type} {xs : List α} {lo hi : Option Int} (h : HT.sIx xs.length 0 lo = 0 ∧ HT.sIx xs.length xs.length hi = xs.length) : cut xs lo hi = xs := by
  unfold cut
  rw [h.1, h.2]
  simp
def dSl (ta : DE) (tl th : DO) : DE := fun δ K => ta δ fun x => tl δ fun lo => th δ fun hi => match x with
  | .tup xs => K (.tup (cut xs lo hi))
  | .lst xs => K (.lst (cut xs lo hi))
  | _ => False
theorem pd_slice {lo hi : Option Expr} {p2 : Pos} {tl th : DO} (ha : PD τ X H0 a ta) (hl : PDO τ X H0 lo tl) (hh : PDO τ X H0 hi th) : PD τ X H0 (.Subscript a (.Slice lo hi none p2) pos) (dSl ta tl th) := by
  refine ⟨fun Mu => PE.imp (pe_slice (SlR.or sl_tupA sl_list) (ha.pe Mu) (hl.po Mu) (hh.po Mu)) fun σ H Q ⟨δ, K, e, h, q⟩ => ⟨δ, _, e, h, fun d1 h1 v1 H1 s1 r1 => ⟨δ, _, e.same s1, h1, fun o2 h2 H2 s2 => ⟨δ, _, e.same (s1.trans s2), h2, fun o3 h3 H3 s3 => ?_⟩⟩⟩⟩
  have s := s1.trans (s2.trans s3)
  have s23 := s2.trans s3
  have mu := e.mu.same s
  split at h3
  · cases r1 with
    | tup a1 a2 =>
      refine .inl ⟨_, _, rfl, .of (s23 _ _ a1), fun w => ?_, fun _ p hp => q _ h3 _ _ (s.trans (same_new (τ := τ) hp)) (.tup upd_same (((a2.same s23).cut _ _).same (same_new (τ := τ) hp)))⟩
      rw [a2.length] at w
      rw [cut_whole w] at h3
      exact q _ h3 _ H3 s (.tup (s23 _ _ a1) (a2.same s23))
  · cases r1 with
    | lst a1 a3 a2 =>
      exact .inr ⟨_, _, rfl, .of (s23 _ _ a1), fun p hp => q _ h3 _ _ (s.trans (same_new (τ := τ) hp)) (.lst upd_same (mu.fresh hp) (((a2.same s23).cut _ _).same (same_new (τ := τ) hp)))⟩
  · exact h3.elim

/-! ### builtins -/
def dLen : FD := fun ds K => match ds with | [.tup xs] => K (.int (xs.length : Nat)) | [.lst xs] => K (.int (xs.length : Nat)) | _ => False
theorem cd_len : CallD τ X (.builtin "len") dLen := by
  intro Mu pins s σ H xs us Q I r h
  obtain ⟨ds, K, mu, ra, h, q⟩ := h
  unfold dLen at h
  split at h
  · cases ra with
    | cons r1 r2 =>
      cases r2
      cases r1 with
      | tup a1 a2 =>
        refine call_len_seq pins s σ H _ us Q I r ⟨_, _, rfl, .inr (.of a1), ?_⟩
        rw [a2.length]
        exact q _ h _ H (Same.refl H) (.int _)
  · cases ra with
    | cons r1 r2 =>
      cases r2
      cases r1 with
      | lst a1 a3 a2 =>
        refine call_len_seq pins s σ H _ us Q I r ⟨_, _, rfl, .inl (.of a1), ?_⟩
        rw [a2.length]
        exact q _ h _ H (Same.refl H) (.int _)
  · exact h.elim
def dTupleOf : FD := fun ds K => match ds with | [.tup xs] => K (.tup xs) | [.lst xs] => K (.tup xs) | _ => False
theorem cd_tuple : CallD τ X (.type "tuple") dTupleOf := by
  intro Mu pins s σ H xs us Q I r h
  obtain ⟨ds, K, mu, ra, h, q⟩ := h
  unfold dTupleOf at h
  split at h
  · cases ra with
    | cons r1 r2 =>
      cases r2
      cases r1 with
      | tup a1 a2 => exact call_tuple_of pins s σ H _ us Q I r ⟨_, _, rfl, .inr ⟨.of a1, q _ h _ H (Same.refl H) (.tup a1 a2)⟩⟩
  · cases ra with
    | cons r1 r2 =>
      cases r2
      cases r1 with
      | lst a1 a3 a2 => exact call_tuple_of pins s σ H _ us Q I r ⟨_, _, rfl, .inl ⟨.of a1, fun l hl => q _ h _ _ (same_new (τ := τ) hl) (.tup upd_same (a2.same (same_new (τ := τ) hl)))⟩⟩
  · exact h.elim
def dListOf : FD := fun ds K => match ds with | [.tup xs] => K (.lst xs) | [.lst xs] => K (.lst xs) | _ => False
theorem cd_list : CallD τ X (.type "list") dListOf := by
  intro Mu pins s σ H xs us Q I r h
  obtain ⟨ds, K, mu, ra, h, q⟩ := h
  unfold dListOf at h
  split at h
  · cases ra with
    | cons r1 r2 =>
      cases r2
      cases r1 with
      | tup a1 a2 => exact call_list_of pins s σ H _ us Q I r ⟨_, _, rfl, .inr (.of a1), fun l hl => q _ h _ _ (same_new (τ := τ) hl) (.lst upd_same (mu.fresh hl) (a2.same (same_new (τ := τ) hl)))⟩
  · cases ra with
    | cons r1 r2 =>
      cases r2
      cases r1 with
      | lst a1 a3 a2 => exact call_list_of pins s σ H _ us Q I r ⟨_, _, rfl, .inl (.of a1), fun l hl => q _ h _ _ (same_new (τ := τ) hl) (.lst upd_same (mu.fresh hl) (a2.same (same_new (τ := τ) hl)))⟩
  · exact h.elim
def dAll : FD := fun ds K => match ds with | [.lst xs] => ∃ bs : List Bool, xs = bs.map D.bl ∧ K (.bl (bs.all id)) | _ => False
theorem cd_all (hc : X.calm = true) : CallD τ X (.builtin "all") dAll := by
  intro Mu pins s σ H xs us Q I r h
  obtain ⟨ds, K, mu, ra, h, q⟩ := h
  unfold dAll at h
  split at h
  · obtain ⟨bs, rfl, h⟩ := h
    cases ra with
    | cons r1 r2 =>
      cases r2
      cases r1 with
      | lst a1 a3 a2 =>
        have e := a2.bls
        subst e
        exact cr_all hc pins s σ H _ us Q I r ⟨_, _, rfl, .of a1, q _ h _ H (Same.refl H) (.bl _)⟩
  · exact h.elim
end
end Gf
namespace Gf
open PySem PySem.Spec PyProof.Rows L2
variable {τ : Tbs}
section
variable {X : Cx} {H0 : Hp} {pos : Pos}
variable {a b c e : Expr} {es : List Expr} {ta tb tc te : DE} {tA : DT} {st : Stmt} {rest : List Stmt} {t u : DTS}
/-! ### blocks, small statements -/
def dNext : DTS := fun K δ => K.nx δ
def dSeq (t u : DTS) : DTS := fun K δ => t { K with nx := fun δ' => u K δ' } δ
theorem pds_pass : PDS τ X H0 (.Pass pos) dNext := ⟨fun Mu => PS.imp ps_pass fun Z σ H _ ⟨hn, δ, K, e, h, z⟩ => z.nx δ h σ H hn (Same.refl H) e⟩
theorem pds_break : PDS τ X H0 (.Break pos) (fun K δ => K.bk δ) := ⟨fun Mu => PS.imp ps_break fun Z σ H _ ⟨hn, δ, K, e, h, z⟩ => z.bk δ h σ H hn (Same.refl H) e⟩
theorem pds_continue : PDS τ X H0 (.Continue pos) (fun K δ => K.ct δ) := ⟨fun Mu => PS.imp ps_continue fun Z σ H _ ⟨hn, δ, K, e, h, z⟩ => z.ct δ h σ H hn (Same.refl H) e⟩
theorem pds_never : PDS τ X H0 st (fun _ _ => False) := ⟨fun Mu => PS.imp ps_never fun Z σ H _ ⟨hn, δ, K, e, h, z⟩ => h⟩
theorem pdss_nil : PDSs τ X H0 [] dNext := ⟨fun Mu => PSs.imp pss_nil fun Z σ H _ ⟨hn, δ, K, e, h, z⟩ => z.nx δ h σ H hn (Same.refl H) e⟩
theorem pdss_one (h : PDS τ X H0 st t) : PDSs τ X H0 [st] t := ⟨fun Mu => pss_one (h.ps Mu)⟩
theorem pdss_cons (h1 : PDS τ X H0 st t) (h2 : PDSs τ X H0 rest u) : PDSs τ X H0 (st :: rest) (dSeq t u) := by
  refine ⟨fun Mu => PSs.imp (pss_cons (h1.ps Mu) (h2.pss Mu)) fun Z σ H hl ⟨hn, δ, K, e, h, z⟩ => ⟨hn, δ, _, e, h, ?_⟩⟩
  exact ⟨fun δ' h' σ' H' l' s' e' => ⟨l', δ', K, e', h', z.same s'⟩, z.rt, z.bk, z.ct⟩
def dRet (te : DE) : DTS := fun K δ => te δ K.rt
theorem pds_ret (he : PD τ X H0 e te) : PDS τ X H0 (.Return (some e) pos) (dRet te) := ⟨fun Mu => PS.imp (ps_ret (he.pe Mu)) fun Z σ H _ ⟨hn, δ, K, e, h, z⟩ => ⟨δ, _, e, h, fun d hd v H' s r => z.rt d hd v H' s r⟩⟩
theorem pds_retN : PDS τ X H0 (.Return none pos) (fun K _ => K.rt .non) := ⟨fun Mu => PS.imp ps_retN fun Z σ H _ ⟨hn, δ, K, e, h, z⟩ => z.rt _ h _ H (Same.refl H) .non⟩
def dDrop (te : DE) : DTS := fun K δ => te δ fun _ => K.nx δ
theorem pds_expr (he : PD τ X H0 e te) (hs : swapsWith e none pos.line X.env = pure false := by rfl) : PDS τ X H0 (.Expr e pos) (dDrop te) :=
  ⟨fun Mu => PS.imp (ps_expr (he.pe Mu) hs) fun Z σ H _ ⟨hn, δ, K, e, h, z⟩ => ⟨δ, _, e, h, fun d hd v H' s r => z.nx δ hd σ H' hn s (e.same s)⟩⟩
def dIfS (c : DT) (t u : DTS) : DTS := fun K δ => c δ fun b => if b = true then t K δ else u K δ
theorem pds_if {c : Expr} {s1 s2 : List Stmt} (hc : PDT τ X H0 c tA) (ha : PDSs τ X H0 s1 t) (hb : PDSs τ X H0 s2 u) : PDS τ X H0 (.If c s1 s2 pos) (dIfS tA t u) := by
  refine ⟨fun Mu => PS.imp (ps_if (hc.pt Mu) (ha.pss Mu) (hb.pss Mu)) fun Z σ H _ ⟨hn, δ, K, e, h, z⟩ => ⟨δ, _, e, h, fun k hk H' s => ?_⟩⟩
  cases k with
  | true => exact iteT ⟨hn, δ, K, e.same s, (by simpa using hk), z.same s⟩
  | false => exact iteF ⟨hn, δ, K, e.same s, (by simpa using hk), z.same s⟩
/-- x = e -/
def dSet (i : Nat) (te : DE) : DTS := fun K δ => te δ fun d => K.nx (δ.set i (some d))
theorem setOk {Mu : Addr → Prop} {i : Nat} {x : Str} {σ : L2.St} {H : Hp} {Z : Ends} (hi : X.N[i]? = some x) (h : LS τ Mu H0 X.N.length (dSet i te) Z σ H) : tAsg (LE τ Mu H0 te) (L2.gName i) Z σ H := by
  obtain ⟨hn, δ, K, e, h, z⟩ := h
  have hl : i < σ.length := by rw [hn]; exact (List.getElem?_eq_some_iff.mp hi).1
  exact ⟨δ, _, e, h, fun d hd v H' s r => z.nx _ hd _ H' (by rw [List.length_set]; exact hn) s ((e.same s).set r hl)⟩
theorem pds_set (i : Nat) {x : Str} {pos' : Pos} (he : PD τ X H0 e te) (hN : X.N.Nodup) (hi : X.N[i]? = some x := by rfl) (hx : Loc X.env.scope x := by first | exact Or.inl rfl | exact Or.inr rfl) (hs : swapsWith e (some (.Name x pos')) pos.line X.env = pure false := by rfl)
    (hf : X.fn x = true ∨ X.env.scope.names.lookup x = some .local := by first | exact .inl rfl | exact .inr rfl | assumption) : PDS τ X H0 (.Assign [.Name x pos'] e pos) (dSet i te) :=
  ⟨fun Mu => PS.imp (ps_set hN hi hx (he.pe Mu) hs hf) fun Z σ H _ h => setOk hi h⟩
/-- a, b = x, y of plain local names -/
def dPar (i j : Nat) (ta tb : DE) : DTS := fun K δ => ta δ fun x => tb δ fun y => K.nx ((δ.set i (some x)).set j (some y))
theorem pds_par (i j : Nat) {x y : Str} {px py pt : Pos} {kt k2 pt2} (ha : PD τ X H0 a ta) (hb : PD τ X H0 b tb) (hN : X.N.Nodup) (hc : X.calm = true := by rfl) (hi : X.N[i]? = some x := by rfl) (hj : X.N[j]? = some y := by rfl) (hij : i ≠ j := by decide)
    (hx : X.env.scope.names.lookup x = some .local := by rfl) (hy : X.env.scope.names.lookup y = some .local := by rfl)
    (hw : swappedStores [.Tuple [.Name x px, .Name y py] kt pt] (.Tuple [a, b] k2 pt2) X.env = pure (some [x, y]) := by rfl)
    (hs : swapsWithSole [.Tuple [.Name x px, .Name y py] kt pt] (.Tuple [a, b] k2 pt2) pos.line X.env = pure false := by rfl)
    (h1 : starEach (a :: [b]) X.env = (false, eval a X.env) :: starEach [b] X.env := by rfl) (h2 : starEach (b :: []) X.env = (false, eval b X.env) :: starEach [] X.env := by rfl) :
    PDS τ X H0 (.Assign [.Tuple [.Name x px, .Name y py] kt pt] (.Tuple [a, b] k2 pt2) pos) (dPar i j ta tb) := by
  refine ⟨fun Mu => PS.imp (ps_par hc hN hi hj hij hx hy (pa_cons (ha.pe Mu) (pa_cons (hb.pe Mu) pa_nil h2) h1) hw hs) fun Z σ H _ ⟨hn, δ, K, e, h, z⟩ => ?_⟩
  have hl : i < σ.length := by rw [hn]; exact (List.getElem?_eq_some_iff.mp hi).1
  have hl2 : j < σ.length := by rw [hn]; exact (List.getElem?_eq_some_iff.mp hj).1
  refine ⟨δ, _, e, h, fun d1 h1 v1 H1 s1 r1 => ⟨δ, _, e.same s1, h1, fun d2 h2 v2 H2 s2 r2 => ⟨v1, v2, rfl, ?_⟩⟩⟩
  have s := s1.trans s2
  exact z.nx _ h2 _ H2 (by rw [List.length_set, List.length_set]; exact hn) s (((e.same s).set (r1.same s2) hl).set r2 (by rw [List.length_set]; exact hl2))

/-! ### targets -/
/-- a target: it stores the slots vs alone -/
def LGv (τ : Tbs) (Mu : Addr → Prop) (H0 : Hp) (n : Nat) (vs : List Nat) (t : DG) : TG := fun v σ H Q => σ.length = n ∧ ∃ d δ K, ES τ Mu H0 H σ δ ∧ R Mu H v d ∧ t d δ K ∧ ∀ δ', K δ' → ∀ σ' H', σ'.length = n → L2.wipe σ' vs = L2.wipe σ vs → Same τ H H' → ES τ Mu H0 H' σ' δ' → Q σ' H'
structure PDGv (τ : Tbs) (X : Cx) (H0 : Hp) (vs : List Nat) (e : Expr) (t : DG) : Prop where
  pg : ∀ Mu, PG X e (LGv τ Mu H0 X.N.length vs t)
def LGs (τ : Tbs) (Mu : Addr → Prop) (H0 : Hp) (n : Nat) (vs : List Nat) (t : List D → DSt → (DSt → Prop) → Prop) : TGs := fun xs σ H Q => σ.length = n ∧ ∃ ds δ K, ES τ Mu H0 H σ δ ∧ RA Mu H xs ds ∧ t ds δ K ∧ ∀ δ', K δ' → ∀ σ' H', σ'.length = n → L2.wipe σ' vs = L2.wipe σ vs → Same τ H H' → ES τ Mu H0 H' σ' δ' → Q σ' H'
structure PDGs (τ : Tbs) (X : Cx) (H0 : Hp) (vs : List Nat) (es : List Expr) (t : List D → DSt → (DSt → Prop) → Prop) : Prop where
  pg : ∀ Mu, PGs X es (LGs τ Mu H0 X.N.length vs t)
theorem PGs.imp {e : List Expr} {t t' : TGs} (h : PGs X e t) (i : ∀ v σ H Q, t' v σ H Q → t v σ H Q) : PGs X e t' := ⟨fun pins s σ H v u Q I r hw => h.run pins s σ H v u Q I r (i v σ H Q hw)⟩
theorem wipe_set {σ : L2.St} {i : Nat} {x : Option V} : ∀ {vs : List Nat}, i ∈ vs → L2.wipe (σ.set i x) vs = L2.wipe σ vs
  | v :: vs, h => by
    show (L2.wipe (σ.set i x) vs).set v none = (L2.wipe σ vs).set v none
    by_cases hm : i ∈ vs
    · rw [wipe_set hm]
    · have e : i = v := (List.mem_cons.mp h).resolve_right hm
      subst e
      have out : ∀ (us : List Nat), i ∉ us → L2.wipe (σ.set i x) us = (L2.wipe σ us).set i x := by
        intro us
        induction us with
        | nil => intro _; rfl
        | cons u us ih =>
          intro hn
          show (L2.wipe (σ.set i x) us).set u none = ((L2.wipe σ us).set u none).set i x
          rw [ih fun z => hn (List.mem_cons_of_mem _ z), List.set_comm _ _ fun z => hn (by rw [z]; exact List.mem_cons_self)]
      rw [out vs hm, List.set_set]
def dName (i : Nat) : DG := fun d δ K => K (δ.set i (some d))
theorem pdg_name (i : Nat) {x : Str} {vs : List Nat} (hN : X.N.Nodup) (hm : i ∈ vs := by decide) (hi : X.N[i]? = some x := by rfl) (hx : Loc X.env.scope x := by first | exact Or.inl rfl | exact Or.inr rfl)
    (hf : X.fn x = true ∨ X.env.scope.names.lookup x = some .local := by first | exact .inl rfl | exact .inr rfl | assumption) : PDGv τ X H0 vs (.Name x pos) (dName i) := by
  refine ⟨fun Mu => PG.imp (pg_name hN hi hx hf) fun v σ H Q ⟨hn, d, δ, K, e, r, h, q⟩ => ?_⟩
  have hl : i < σ.length := by rw [hn]; exact (List.getElem?_eq_some_iff.mp hi).1
  exact q _ h _ H (by rw [List.length_set]; exact hn) (wipe_set hm) (Same.refl H) (e.set r hl)
def dgNil : List D → DSt → (DSt → Prop) → Prop := fun ds δ K => match ds with | [] => K δ | _ => False
def dgCons (t : DG) (u : List D → DSt → (DSt → Prop) → Prop) : List D → DSt → (DSt → Prop) → Prop := fun ds δ K => match ds with | d :: r => t d δ fun δ' => u r δ' K | [] => False
theorem pdgs_nil {vs : List Nat} : PDGs τ X H0 vs [] dgNil := by
  refine ⟨fun Mu => PGs.imp pgs_nil fun xs σ H Q ⟨hn, ds, δ, K, e, r, h, q⟩ => ?_⟩
  unfold dgNil at h
  split at h
  · cases r
    exact ⟨rfl, q _ h σ H hn rfl (Same.refl H) e⟩
  · exact h.elim
theorem pdgs_cons {vs : List Nat} {t : DG} {u : List D → DSt → (DSt → Prop) → Prop} (h1 : PDGv τ X H0 vs e t) (h2 : PDGs τ X H0 vs es u)
    (hs : (assignEach (e :: es) X.env).map (·.2) = assign e X.env :: (assignEach es X.env).map (·.2) := by rfl) : PDGs τ X H0 vs (e :: es) (dgCons t u) := by
  refine ⟨fun Mu => PGs.imp (pgs_cons (h1.pg Mu) (h2.pg Mu) hs) fun xs σ H Q ⟨hn, ds, δ, K, e, r, h, q⟩ => ?_⟩
  unfold dgCons at h
  split at h
  · cases r with
    | cons r1 r2 => exact ⟨_, _, rfl, hn, _, δ, _, e, r1, h, fun δ' h' σ' H' l' w' s' e' => ⟨l', _, δ', K, e', r2.same s', h', fun δ2 k2 σ2 H2 l2 w2 s2 e2 => q δ2 k2 σ2 H2 l2 (w2.trans w') (s'.trans s2) e2⟩⟩
  · exact h.elim
def dgTup (n : Nat) (u : List D → DSt → (DSt → Prop) → Prop) : DG := fun d δ K => match d with | .tup xs => xs.length = n ∧ u xs δ K | .lst xs => xs.length = n ∧ u xs δ K | _ => False
theorem PG.or {e : Expr} {t t' : TG} (h : PG X e t) (h' : PG X e t') : PG X e (fun v σ H Q => t v σ H Q ∨ t' v σ H Q) := ⟨fun pins s σ H v u Q I r z => z.elim (h.run pins s σ H v u Q I r) (h'.run pins s σ H v u Q I r)⟩
theorem pdg_tup {vs : List Nat} {k n : Nat} {u : List D → DSt → (DSt → Prop) → Prop} (h : PDGs τ X H0 vs es u) (hc : X.calm = true := by rfl) (hn : (assignEach es X.env).length = n := by rfl) (hst : (assignEach es X.env).findIdx? (·.1) = none := by rfl) : PDGv τ X H0 vs (.Tuple es k pos) (dgTup n u) := by
  refine ⟨fun Mu => PG.imp (PG.or (pg_tup hc (h.pg Mu) hn hst) (pg_unl hc (h.pg Mu) hn hst)) fun v σ H Q ⟨hl, d, δ, K, e, r, h, q⟩ => ?_⟩
  unfold dgTup at h
  split at h
  · cases r with
    | tup a1 a2 => exact .inl ⟨_, _, rfl, .of a1, by rw [a2.length]; exact h.1, hl, _, δ, K, e, a2, h.2, q⟩
  · cases r with
    | lst a1 a3 a2 => exact .inr ⟨_, _, rfl, .of a1, by rw [a2.length]; exact h.1, hl, _, δ, K, e, a2, h.2, q⟩
  · exact h.elim
/-- (a, b) = e -/
def dAsg (te : DE) (g : DG) : DTS := fun K δ => te δ fun d => g d δ K.nx
theorem pds_asg {vs : List Nat} {tg : Expr} {g : DG} (he : PD τ X H0 e te) (hg : PDGv τ X H0 vs tg g) (hs : swapsWithSole [tg] e pos.line X.env = pure false := by rfl) (hw : swappedStores [tg] e X.env = pure none := by rfl)
    (h1 : (assignEach [tg] X.env).map (·.2) = [assign tg X.env] := by rfl) : PDS τ X H0 (.Assign [tg] e pos) (dAsg te g) :=
  ⟨fun Mu => PS.imp (ps_asg (he.pe Mu) (hg.pg Mu) hs hw h1) fun Z σ H _ ⟨hn, δ, K, e, h, z⟩ => ⟨δ, _, e, h, fun d hd v H' s r => ⟨hn, d, δ, _, e.same s, r, hd, fun δ' h' σ' H2 l' _ s' e' => z.nx δ' h' σ' H2 l' (s.trans s') e'⟩⟩⟩

/-! ### what is walked -/
/-- from H1 on, J walks the data xs -/
def DW (τ : Tbs) (H1 : Hp) (Mu : Addr → Prop) (J : It) (xs : List D) : Prop := ∀ (Mu' : Addr → Prop), (∀ a, Mu' a → Mu a ∨ H1 a = none) → ∀ H2, SameM τ Mu H1 H2 →
  (∀ i, i < xs.length → J.go i H2) ∧ J.stop xs.length H2 ∧ ∀ i x H3, i < xs.length → J.yld i H2 x H3 → Same τ H2 H3 ∧ ∃ d, xs[i]? = some d ∧ R Mu' H3 x d
def LI (τ : Tbs) (Mu : Addr → Prop) (H0 : Hp) (t : DI) : TI := fun σ H RR => ∃ δ K, ES τ Mu H0 H σ δ ∧ t δ K ∧ ∀ xs, K xs → ∀ J H', Same τ H H' → DW τ H' Mu J xs → RR J H'
structure PDI (τ : Tbs) (X : Cx) (H0 : Hp) (tg iter : Expr) (t : DI) : Prop where
  pi : ∀ Mu, PI X tg iter (LI τ Mu H0 t)
theorem PI.imp {tg iter : Expr} {t t' : TI} (h : PI X tg iter t) (i : ∀ σ H Q, t' σ H Q → t σ H Q) : PI X tg iter t' := ⟨fun pins s σ H Q I hw => h.run pins s σ H Q I (i σ H Q hw)⟩
theorem R.widen {Mu Mu' : Addr → Prop} {H1 H2 : Hp} {v : V} {d : D} (r : R Mu H1 v d) (m : ∀ a, Mu' a → Mu a ∨ H1 a = none) (s : SameM τ Mu H1 H2) : R Mu' H2 v d :=
  R.go s (fun a vs e n z => (m a z).elim n fun k => by rw [k] at e; cases e) d v r
theorem RA.widen {Mu Mu' : Addr → Prop} {H1 H2 : Hp} {v : List V} {d : List D} (r : RA Mu H1 v d) (m : ∀ a, Mu' a → Mu a ∨ H1 a = none) (s : SameM τ Mu H1 H2) : RA Mu' H2 v d :=
  RA.go s (fun a vs e n z => (m a z).elim n fun k => by rw [k] at e; cases e) d v r
theorem dw_list {Mu : Addr → Prop} {H1 : Hp} {K : PySem.W.Frag} {a : Addr} {vs : List V} {ds : List D} (h : H1 a = some (.lst vs)) (hn : ¬ Mu a) (r : RA Mu H1 vs ds) : DW τ H1 Mu (Itl K a) ds := fun Mu' m H2 s => by
  have q : SqL K H2 a vs := .of (s _ _ h fun _ => hn)
  refine ⟨fun i hi => ?_, ⟨vs, q, by rw [r.length]; exact Nat.le_refl _⟩, fun i x H3 hi y => ?_⟩
  · have hi' : i < vs.length := by rw [r.length]; exact hi
    exact ⟨vs, vs[i], q, by simp [hi']⟩
  · obtain ⟨e, y⟩ := y
    subst e
    obtain ⟨d, hd, rd⟩ := r.get' (y vs q)
    exact ⟨Same.refl _, d, hd, rd.widen m s⟩
theorem dw_tup {Mu : Addr → Prop} {H1 : Hp} {K : PySem.W.Frag} {a : Addr} {vs : List V} {ds : List D} (h : H1 a = some (.tup vs)) (r : RA Mu H1 vs ds) : DW τ H1 Mu (Itt K a) ds := fun Mu' m H2 s => by
  have q : SqT K H2 a vs := .of (s _ _ h fun ⟨_, e⟩ => nomatch e)
  refine ⟨fun i hi => ?_, ⟨vs, q, by rw [r.length]; exact Nat.le_refl _⟩, fun i x H3 hi y => ?_⟩
  · have hi' : i < vs.length := by rw [r.length]; exact hi
    exact ⟨vs, vs[i], q, by simp [hi']⟩
  · obtain ⟨e, y⟩ := y
    subst e
    obtain ⟨d, hd, rd⟩ := r.get' (y vs q)
    exact ⟨Same.refl _, d, hd, rd.widen m s⟩
/-- a list or a tuple, as it comes -/
theorem pi_any {tg : Expr} {tl : TE} (hl : PE X a tl) : PI X tg a (fun σ H RR => tl σ H fun x H1 => (∃ p xs, x = .ref p ∧ H1 p = some (.lst xs) ∧ RR (Itl X.K p) H1) ∨ (∃ p xs, x = .ref p ∧ H1 p = some (.tup xs) ∧ RR (Itt X.K p) H1)) := by
  refine ⟨fun pins s σ H RR I h => ?_⟩
  refine thn (hl.run pins s σ H _ I h) fun v s1 ⟨x, H1, I1, r1, q1⟩ => ?_
  have one : ∀ b, b ∈ [s1.heap.objs.size] → b = s1.heap.objs.size := fun b hb => by simpa using hb
  rcases q1 with ⟨p, xs, e, hq, q⟩ | ⟨p, xs, e, hq, q⟩
  · subst e
    cases r1
    obtain ⟨its, rv, pl, hz⟩ := I1.list (.of hq)
    refine wpAny_pyIter_list pl.isList ⟨s1.heap.objs.size, [s1.heap.objs.size], _, _, H1, rfl, I1.kept (t' := s1.toks) fun b o e => Heap.get?_push_of_some _ e, turn_list p _, ⟨_, Heap.get?_push_size _ rfl, rfl, rfl⟩, fun b hb => ?_, q⟩
    rw [one b hb]
    exact I1.fpOk (Nat.le_refl _) (I1.hok.fresh (Nat.le_refl _))
  · subst e
    cases r1
    obtain ⟨its, rv, pl, hz⟩ := I1.tuple (.of hq)
    refine wpAny_pyIter_tuple (show s1.heap.IsTuple p its.toArray from pl) ⟨s1.heap.objs.size, [s1.heap.objs.size], _, _, H1, rfl, I1.kept (t' := s1.toks) fun b o e => Heap.get?_push_of_some _ e, turn_tuple p _, ⟨_, Heap.get?_push_size _ rfl, rfl, rfl⟩, fun b hb => ?_, q⟩
    rw [one b hb]
    exact I1.fpOk (Nat.le_refl _) (I1.hok.fresh (Nat.le_refl _))
def dItems (te : DE) : DI := fun δ K => te δ fun d => match d with | .tup xs => K xs | .lst xs => K xs | _ => False
theorem pdi_seq {tg : Expr} (he : PD τ X H0 e te) : PDI τ X H0 tg e (dItems te) := by
  refine ⟨fun Mu => PI.imp (pi_any (he.pe Mu)) fun σ H RR ⟨δ, K, e, h, q⟩ => ⟨δ, _, e, h, fun d hd v H' s r => ?_⟩⟩
  split at hd
  · cases r with
    | tup a1 a2 => exact .inr ⟨_, _, rfl, a1, q _ hd _ H' s (dw_tup a1 a2)⟩
  · cases r with
    | lst a1 a3 a2 => exact .inl ⟨_, _, rfl, a1, q _ hd _ H' s (dw_list a1 a3 a2)⟩
  · exact hd.elim
variable {tda : DA}
theorem dw_range {Mu : Addr → Prop} {H1 : Hp} {lo : Int} {n : Nat} : DW τ H1 Mu (Itr lo n) ((List.range n).map fun i => D.int (lo + (i : Nat))) := fun Mu' m H2 s => by
  refine ⟨fun i hi => (by have h : i < n := by simpa using hi
                          exact h), (by show n ≤ _; simp), fun i x H3 hi y => ?_⟩
  obtain ⟨e, y⟩ := y
  subst e
  subst y
  have hi' : i < n := by simpa using hi
  exact ⟨Same.refl _, _, by rw [List.getElem?_map, List.getElem?_range hi']; rfl, .int _⟩
def dRange1 (t : DA) : DI := fun δ K => t δ fun ds => match ds with | [.int j] => (-(2 ^ 62) ≤ j ∧ j < 2 ^ 62) ∧ K ((List.range j.toNat).map fun i => D.int (0 + (i : Nat))) | _ => False
theorem pdi_range1 {tg : Expr} {p : Pos} (hg : Gl X "range") (hm : X.mg "range" = none) (ha : PDA τ X H0 [a] tda) (hs : starEach [a] X.env = [(false, eval a X.env)] := by rfl) : PDI τ X H0 tg (.Call (.Name "range" p) [a] [] pos) (dRange1 tda) := by
  refine ⟨fun Mu => PI.imp (pi_range1 hg hm (ha.pa Mu) hs) fun σ H RR ⟨δ, K, e, h, q⟩ => ⟨δ, _, e, h, fun ds hd vs H' s r => ?_⟩⟩
  split at hd
  · cases r with
    | cons r1 r2 =>
      cases r2
      cases r1
      exact ⟨_, rfl, hd.1.1, hd.1.2, q _ hd.2 _ H' s dw_range⟩
  · exact hd.elim
def dRange2 (t : DA) : DI := fun δ K => t δ fun ds => match ds with | [.int i, .int j] => (-(2 ^ 62) ≤ i ∧ i < 2 ^ 62 ∧ -(2 ^ 62) ≤ j ∧ j < 2 ^ 62) ∧ K ((List.range (j - i).toNat).map fun k => D.int (i + (k : Nat))) | _ => False
theorem pdi_range2 {tg : Expr} {p : Pos} (hg : Gl X "range") (hm : X.mg "range" = none) (ha : PDA τ X H0 [a, b] tda) (hs : starEach [a, b] X.env = [(false, eval a X.env), (false, eval b X.env)] := by rfl) (hs2 : starEach [b] X.env = [(false, eval b X.env)] := by rfl) : PDI τ X H0 tg (.Call (.Name "range" p) [a, b] [] pos) (dRange2 tda) := by
  refine ⟨fun Mu => PI.imp (pi_range2 hg hm (ha.pa Mu) hs hs2) fun σ H RR ⟨δ, K, e, h, q⟩ => ⟨δ, _, e, h, fun ds hd vs H' s r => ?_⟩⟩
  split at hd
  · cases r with
    | cons r1 r2 =>
      cases r2 with
      | cons r2 r3 =>
        cases r3
        cases r1
        cases r2
        exact ⟨_, _, rfl, hd.1, q _ hd.2 _ H' s dw_range⟩
  · exact hd.elim

/-! ### for -/
def forW (g : DG) (tb : DTS) (K : DEnds) : List D → DSt → Prop
  | [], δ => K.nx δ
  | x :: xs, δ => g x δ fun δ1 => tb { nx := forW g tb K xs, rt := K.rt, bk := K.nx, ct := forW g tb K xs } δ1
def dFor (ti : DI) (g : DG) (tb : DTS) : DTS := fun K δ => ti δ fun xs => forW g tb K xs δ
theorem pds_for {vs : List Nat} {tg iter : Expr} {body : List Stmt} {ti : DI} {g : DG} {tb : DTS} (hi : PDI τ X H0 tg iter ti) (hg : PDGv τ X H0 vs tg g) (hb : PDSs τ X H0 body tb) (hp : PassesOwn (model X.prog X.w) X.A X.env X.xe := by exact PassesOwn.never) (hc : X.calm = true := by rfl)
    (hs : ∀ x, foldedSetIterable iter X.env x = pure x := by intro _; rfl) : PDS τ X H0 (.For tg iter body [] pos) (dFor ti g tb) := by
  refine ⟨fun Mu => PS.imp (ps_for hp hc (hi.pi Mu) (hg.pg Mu) (hb.pss Mu) hs) fun Z σ H _ ⟨hn, δ, K, e, h, z⟩ => ⟨δ, _, e, h, fun xs hx J H1 s1 w => ?_⟩⟩
  refine ⟨fun i m σ H => m = xs.length - i ∧ i ≤ xs.length ∧ σ.length = X.N.length ∧ Same τ H1 H ∧ ∃ δ, ES τ Mu H0 H σ δ ∧ forW g tb K (xs.drop i) δ, ⟨xs.length, by simp, Nat.zero_le _, hn, Same.refl _, δ, e.same s1, hx⟩, ?_⟩
  rintro i m σ2 H2 ⟨rfl, hi, hl, s2, δ2, e2, f⟩
  obtain ⟨w1, w2, w3⟩ := w Mu (fun a h => .inl h) H2 (toM s2)
  by_cases hlt : i < xs.length
  · refine .inr ⟨w1 i hlt, fun σ' H' => σ'.length = X.N.length ∧ Same τ H1 H' ∧ ∃ δ, ES τ Mu H0 H' σ' δ ∧ forW g tb K (xs.drop (i + 1)) δ, fun σ' H' q => ⟨xs.length - (i + 1), by omega, rfl, hlt, q⟩, fun x H3 y => ?_⟩
    obtain ⟨s3, d, hd, rd⟩ := w3 i x H3 hlt y
    have ed : xs.drop i = d :: xs.drop (i + 1) := by
      obtain ⟨h1, h2⟩ := List.getElem?_eq_some_iff.mp hd
      rw [List.drop_eq_getElem_cons h1, h2]
    rw [ed] at f
    refine ⟨hl, d, δ2, _, e2.same s3, rd, f, fun δ' h' σ' H' l' _ s' e' => ⟨l', δ', _, e', h', ?_⟩⟩
    have s02 := s2.trans (s3.trans s')
    exact ⟨fun δ4 h4 σ4 H4 l4 s4 e4 => ⟨l4, s02.trans s4, δ4, e4, h4⟩, fun d4 h4 v4 H4 s4 r4 => z.rt d4 h4 v4 H4 (s1.trans (s02.trans s4)) r4, fun δ4 h4 σ4 H4 l4 s4 e4 => z.nx δ4 h4 σ4 H4 l4 (s1.trans (s02.trans s4)) e4, fun δ4 h4 σ4 H4 l4 s4 e4 => ⟨l4, s02.trans s4, δ4, e4, h4⟩⟩
  · have ei : i = xs.length := by omega
    subst ei
    rw [List.drop_length] at f
    exact .inl ⟨w2, z.nx δ2 f σ2 H2 hl (s1.trans s2) e2⟩

/-! ### while -/
def dWhile (c : DT) (tb : DTS) : DTS := fun K δ => ∃ W : Nat → DSt → Prop, (∃ m, W m δ) ∧ ∀ m δ, W m δ → c δ fun b => if b = true then tb { nx := fun δ' => ∃ m', m' < m ∧ W m' δ', rt := K.rt, bk := K.nx, ct := fun δ' => ∃ m', m' < m ∧ W m' δ' } δ else K.nx δ
theorem pds_while {c : Expr} {body : List Stmt} {tb : DTS} (hc : PDT τ X H0 c tA) (hb : PDSs τ X H0 body tb) (hp : PassesOwn (model X.prog X.w) X.A X.env X.xe := by exact PassesOwn.never) : PDS τ X H0 (.While c body [] pos) (dWhile tA tb) := by
  refine ⟨fun Mu => PS.imp (ps_while hp (hc.pt Mu) (hb.pss Mu)) fun Z σ H _ ⟨hn, δ, K, e, ⟨W, ⟨m0, w0⟩, turn⟩, z⟩ => ?_⟩
  refine ⟨fun m σ' H' => σ'.length = X.N.length ∧ Same τ H H' ∧ ∃ δ, ES τ Mu H0 H' σ' δ ∧ W m δ, ⟨m0, hn, Same.refl _, δ, e, w0⟩, ?_⟩
  rintro m σ1 H1 ⟨l1, s1, δ1, e1, w1⟩
  refine ⟨δ1, _, e1, turn m δ1 w1, fun b hb H2 s2 => ?_⟩
  cases b with
  | true =>
    refine iteT ⟨fun σ' H' => σ'.length = X.N.length ∧ Same τ H H' ∧ ∃ δ, ES τ Mu H0 H' σ' δ ∧ ∃ m', m' < m ∧ W m' δ, fun σ' H' ⟨l', s', δ', e', m', hm, w'⟩ => ⟨m', hm, l', s', δ', e', w'⟩, l1, δ1, _, e1.same s2, (by simpa using hb), ?_⟩
    have s := s1.trans s2
    exact ⟨fun δ4 h4 σ4 H4 l4 s4 e4 => ⟨l4, s.trans s4, δ4, e4, h4⟩, fun d4 h4 v4 H4 s4 r4 => z.rt d4 h4 v4 H4 (s.trans s4) r4, fun δ4 h4 σ4 H4 l4 s4 e4 => z.nx δ4 h4 σ4 H4 l4 (s.trans s4) e4, fun δ4 h4 σ4 H4 l4 s4 e4 => ⟨l4, s.trans s4, δ4, e4, h4⟩⟩
  | false => exact iteF (z.nx δ1 (by simpa using hb) σ1 H2 l1 (s1.trans s2) (e1.same s2))
end
end Gf
namespace Gf
open PySem PySem.Spec PyProof.Rows L2
variable {τ : Tbs}
section
variable {X : Cx} {H0 : Hp} {pos : Pos}
/-! ### list comprehensions -/
def wipeD (δ : DSt) : List Nat → DSt
  | [] => δ
  | v :: vs => (wipeD δ vs).set v none
theorem wipeD_some {δ : DSt} {i : Nat} {d : D} : ∀ {vs : List Nat}, (wipeD δ vs)[i]? = some (some d) → δ[i]? = some (some d) ∧ i ∉ vs
  | [], h => ⟨h, by simp⟩
  | v :: vs, h => by
    unfold wipeD at h
    by_cases hi : v = i
    · subst hi
      by_cases hv : v < (wipeD δ vs).length
      · rw [List.getElem?_set_self hv] at h; cases h
      · rw [List.getElem?_eq_none (by simpa using hv)] at h; cases h
    · rw [List.getElem?_set_ne hi] at h
      obtain ⟨h1, h2⟩ := wipeD_some h
      exact ⟨h1, fun z => (List.mem_cons.mp z).elim (fun e => hi e.symm) h2⟩
theorem wipe_out {σ : L2.St} {i : Nat} : ∀ {vs : List Nat}, i ∉ vs → (L2.wipe σ vs)[i]? = σ[i]?
  | [], _ => rfl
  | v :: vs, h => by
    show ((L2.wipe σ vs).set v none)[i]? = σ[i]?
    rw [List.getElem?_set_ne (fun z => h (by rw [z]; exact List.mem_cons_self)), wipe_out fun z => h (List.mem_cons_of_mem _ z)]
theorem ES.wipe {Mu : Addr → Prop} {H H' : Hp} {σ : L2.St} {δ : DSt} (e : ES τ Mu H0 H σ δ) (vs : List Nat) : ES τ Mu H0 H (L2.wipe σ vs) (wipeD δ vs) := by
  refine ⟨e.mu, e.sm, fun i d h => ?_⟩
  obtain ⟨h1, h2⟩ := wipeD_some h
  obtain ⟨v, h3, r⟩ := e.at_ i d h1
  exact ⟨v, by rw [wipe_out h2]; exact h3, r⟩
def lcW (g : DG) (tt : DT) (te : DE) (δ : DSt) (K : DK) : List D → List D → Prop
  | [], acc => K (.lst acc)
  | x :: xs, acc => g x δ fun δ2 => tt δ2 fun b => if b = true then te δ2 fun y => acc.length < sizeLine ∧ lcW g tt te δ K xs (acc ++ [y]) else lcW g tt te δ K xs acc
def dLc (ti : DI) (g : DG) (tt : DT) (te : DE) (vs : List Nat) : DE := fun δ K => ti δ fun xs => lcW g tt te (wipeD δ vs) K xs []
structure PDTs (τ : Tbs) (X : Cx) (H0 : Hp) (es : List Expr) (t : DT) : Prop where
  pts : ∀ Mu, PTs X es (LT τ Mu H0 t)
theorem PTs.imp {e : List Expr} {t t' : TT} (h : PTs X e t) (i : ∀ σ H Q, t' σ H Q → t σ H Q) : PTs X e t' := ⟨fun pins s σ H Q I hw => h.run pins s σ H Q I (i σ H Q hw)⟩
def dYes : DT := fun _ K => K true
theorem pdts_nil : PDTs τ X H0 [] dYes := ⟨fun Mu => PTs.imp pts_nil fun σ H Q ⟨δ, K, e, h, q⟩ => q true h H (Same.refl H)⟩
theorem pdts_one {c : Expr} {t : DT} (h : PDT τ X H0 c t) : PDTs τ X H0 [c] t := ⟨fun Mu => pts_one (h.pt Mu)⟩
variable {elt tg iter : Expr} {ifs : List Expr} {scope : Scope} {own : List (Str × Nat)} {ti : DI} {g : DG} {tt : DT} {te : DE}
/-- .. whatever is written meanwhile -/
def anE (τ : Tbs) (H0 : Hp) (t : DE) : TE := fun σ H Q => ∃ Mu, LE τ Mu H0 t σ H Q
def anT (τ : Tbs) (H0 : Hp) (t : DT) : TT := fun σ H Q => ∃ Mu, LT τ Mu H0 t σ H Q
def anG (τ : Tbs) (H0 : Hp) (n : Nat) (vs : List Nat) (t : DG) : TG := fun v σ H Q => ∃ Mu, LGv τ Mu H0 n vs t v σ H Q
theorem PD.an {e : Expr} {t : DE} (h : PD τ X H0 e t) : PE X e (anE τ H0 t) := ⟨fun pins s σ H Q I ⟨Mu, hw⟩ => (h.pe Mu).run pins s σ H Q I hw⟩
theorem PDTs.an {e : List Expr} {t : DT} (h : PDTs τ X H0 e t) : PTs X e (anT τ H0 t) := ⟨fun pins s σ H Q I ⟨Mu, hw⟩ => (h.pts Mu).run pins s σ H Q I hw⟩
theorem PDGv.an {e : Expr} {vs : List Nat} {t : DG} (h : PDGv τ X H0 vs e t) : PG X e (anG τ H0 X.N.length vs t) := ⟨fun pins s σ H v u Q I r ⟨Mu, hw⟩ => (h.pg Mu).run pins s σ H v u Q I r hw⟩
theorem lc_read {vs : List Nat} {n : Nat} {σ : L2.St} {H : Hp} {Q : VK} {Mu : Addr → Prop} (hl : σ.length = n)
    (δ : DSt) (K : DK) (e : ES τ Mu H0 H σ δ) (q : ∀ d, K d → ∀ v H', Same τ H H' → R Mu H' v d → Q v H') :
    ∀ xs, lcW g tt te (wipeD δ vs) K xs [] → ∀ J H1, Same τ H H1 → DW τ H1 Mu J xs → ∀ D, H1 D = none → ∃ W : Nat → Nat → Hp → Prop, (∃ m, W 0 m (upd H1 D (.lst []))) ∧ ∀ i m H, W i m H →
      (J.stop i H ∧ Q (.ref D) H) ∨ (J.go i H ∧ ∃ Nx : Hp → Prop, (∀ H', Nx H' → ∃ m', m' < m ∧ W (i + 1) m' H') ∧ ∀ x H', J.yld i H x H' → anG τ H0 n vs g x (L2.wipe σ vs) H' fun σ2 H2 => L2.wipe σ2 vs = L2.wipe σ vs ∧ anT τ H0 tt σ2 H2 fun b H3 =>
        if b = true then anE τ H0 te σ2 H3 fun y H4 => ∃ acc, H4 D = some (.lst acc) ∧ acc.length < sizeLine ∧ Nx (upd H4 D (.lst (acc ++ [y]))) else Nx H3) := by
  intro xs hx J H1 s1 w D hD
  have wl : (L2.wipe σ vs).length = n := by rw [L2.wipe_length]; exact hl
  have mw : ∀ a, Mu a ∨ a = D → Mu a ∨ H1 a = none := fun a h => h.imp id fun z => by rw [z]; exact hD
  have mu1 : MuT Mu H1 := e.mu.same s1
  have nMD : ¬ Mu D := mu1.fresh hD
  have ww : L2.wipe (L2.wipe σ vs) vs = L2.wipe σ vs := by
    have out : ∀ (us vs : List Nat), (∀ u ∈ us, u ∈ vs) → L2.wipe (L2.wipe σ us) vs = L2.wipe σ vs := by
      intro us vs
      induction us with
      | nil => intro _; rfl
      | cons u us ih => intro hs; rw [show L2.wipe σ (u :: us) = (L2.wipe σ us).set u none from rfl, wipe_set (hs u List.mem_cons_self), ih fun z hz => hs z (List.mem_cons_of_mem _ hz)]
    exact out vs vs fun _ h => h
  refine ⟨fun i m H => m = xs.length - i ∧ i ≤ xs.length ∧ Same τ H1 H ∧ ∃ vacc acc, H D = some (.lst vacc) ∧ RA (fun a => Mu a ∨ a = D) H vacc acc ∧ lcW g tt te (wipeD δ vs) K (xs.drop i) acc, ⟨xs.length, by simp, Nat.zero_le _, same_new (τ := τ) hD, [], [], upd_same, .nil, hx⟩, ?_⟩
  rintro i m H2 ⟨rfl, hi, s2, vacc, acc, hA, rA, f⟩
  obtain ⟨w1, w2, w3⟩ := w _ mw H2 (toM s2)
  by_cases hlt : i < xs.length
  · refine .inr ⟨w1 i hlt, fun H' => Same τ H1 H' ∧ ∃ vacc acc, H' D = some (.lst vacc) ∧ RA (fun a => Mu a ∨ a = D) H' vacc acc ∧ lcW g tt te (wipeD δ vs) K (xs.drop (i + 1)) acc, fun H' q => ⟨xs.length - (i + 1), by omega, rfl, hlt, q⟩, fun x H3 y => ?_⟩
    obtain ⟨s3, d, hd, rd⟩ := w3 i x H3 hlt y
    have ed : xs.drop i = d :: xs.drop (i + 1) := by
      obtain ⟨h1, h2⟩ := List.getElem?_eq_some_iff.mp hd
      rw [List.drop_eq_getElem_cons h1, h2]
    rw [ed] at f
    have s13 := s2.trans s3
    have e3 : ES τ (fun a => Mu a ∨ a = D) H0 H3 (L2.wipe σ vs) (wipeD δ vs) := by
      have e1 := (e.same s1).wipe (H' := H1) vs
      refine ⟨fun a h => ?_, e1.sm.trans s13, fun i d h => let ⟨v, a, b⟩ := e1.at_ i d h; ⟨v, a, b.widen mw (toM s13)⟩⟩
      rcases h with h | h
      · exact mu1.same s13 a h
      · rw [h, s3 _ _ hA]; exact ⟨_, rfl, fun _ z => nomatch z⟩
    refine ⟨_, wl, d, _, _, e3, rd, f, fun δ2 h2 σ2 H4 l2 wv s4 e4 => ⟨wv.trans ww, _, δ2, _, e4, h2, fun b hb H5 s5 => ?_⟩⟩
    have s15 := s13.trans (s4.trans s5)
    have hA5 : H5 D = some (.lst vacc) := s5 _ _ (s4 _ _ (s3 _ _ hA))
    have rA5 := rA.same (s3.trans (s4.trans s5))
    cases b with
    | false => exact iteF ⟨s15, vacc, acc, hA5, rA5, by simpa using hb⟩
    | true =>
      refine iteT ⟨_, δ2, _, e4.same s5, (by simpa using hb), fun y hy vy H6 s6 r6 => ⟨vacc, s6 _ _ hA5, by rw [rA5.length]; exact hy.1, ?_⟩⟩
      have up : SameM τ (fun a => Mu a ∨ a = D) H6 (upd H6 D (.lst (vacc ++ [vy]))) := ⟨fun a o h n _ => by
        rw [upd_ne]
        · exact h
        · intro z
          rw [z, s6 _ _ hA5] at h
          exact n ⟨_, (Option.some.inj h).symm⟩ (.inr z), tab_own (s6 _ _ hA5)⟩
      refine ⟨⟨fun b o hb nt => ?_, fun p m t => tab_own (s6 _ _ hA5) p m (s6.tab p m (s15.tab p m t))⟩, vacc ++ [vy], acc ++ [y], upd_same, RA.app ((rA5.same s6).sameM up) (.one (r6.sameM up)), hy.2⟩
      rw [upd_ne (ne_of_none hb hD)]
      exact s6.app _ _ (s15.app _ _ hb nt) nt
  · have ei : i = xs.length := by omega
    subst ei
    rw [List.drop_length] at f
    exact .inl ⟨w2, q _ f _ H2 (s1.trans s2) (.lst hA nMD (RA.go (τ := τ) ⟨fun _ _ h _ _ => h, fun _ _ t => t⟩ (fun a _ h n z => n (.inl z)) _ _ rA |> fun r => r))⟩
theorem pd_lc (hN : X.N.Nodup) (hi : PDI τ X H0 tg iter ti) (ok : BlkOk X.N X.env.scope scope own)
    (hg : ∀ (s : Shared) (H : Hp) (C : Addr) (cl : List (Str × Addr)) (fp : List Addr), PDGv τ (X.blk s H scope (compEnvC scope cl C X.env) fp) H0 (own.map (·.2)) tg g) (ht : ∀ (s : Shared) (H : Hp) (C : Addr) (cl : List (Str × Addr)) (fp : List Addr), PDTs τ (X.blk s H scope (compEnvC scope cl C X.env) fp) H0 ifs tt)
    (he : ∀ (s : Shared) (H : Hp) (C : Addr) (cl : List (Str × Addr)) (fp : List Addr), PD τ (X.blk s H scope (compEnvC scope cl C X.env) fp) H0 elt te) (hc : X.calm = true := by rfl) (hs : ∀ x, foldedSetIterable iter X.env x = pure x := by intro _; rfl) :
    PD τ X H0 (.ListComp elt [⟨tg, iter, ifs, 0⟩] scope pos) (dLc ti g tt te (own.map (·.2))) := by
  refine ⟨fun Mu => ⟨fun pins s σ H Q I hw => ?_⟩⟩
  refine (pe_lc (g := anG τ H0 X.N.length (own.map (·.2)) g) hc hN (hi.pi Mu) ok (fun s H C cl fp => (hg s H C cl fp).an) (fun s H C cl fp => (ht s H C cl fp).an) (fun s H C cl fp => (he s H C cl fp).an) hs).run pins s σ H Q I ?_
  obtain ⟨δ, K, e, h, q⟩ := hw
  exact ⟨δ, _, e, h, fun xs hx J H1 s1 w => lc_read I.len δ K e q xs hx J H1 s1 w⟩
theorem pds_setLc (i : Nat) {y : Str} {py spos : Pos} (hi : PDI τ X H0 tg iter ti) (hN : X.N.Nodup) (ok : BlkOk X.N X.env.scope scope own)
    (hg : ∀ (s : Shared) (H : Hp) (C : Addr) (cl : List (Str × Addr)) (fp : List Addr), PDGv τ (X.blk s H scope (compEnvC scope cl C X.env) fp) H0 (own.map (·.2)) tg g) (ht : ∀ (s : Shared) (H : Hp) (C : Addr) (cl : List (Str × Addr)) (fp : List Addr), PDTs τ (X.blk s H scope (compEnvC scope cl C X.env) fp) H0 ifs tt)
    (he : ∀ (s : Shared) (H : Hp) (C : Addr) (cl : List (Str × Addr)) (fp : List Addr), PD τ (X.blk s H scope (compEnvC scope cl C X.env) fp) H0 elt te)
    (hsw : swapsWith (.ListComp elt [⟨tg, iter, ifs, 0⟩] scope pos) (some (.Name y py)) spos.line X.env = pure true) (hc : X.calm = true := by rfl) (hy : X.N[i]? = some y := by rfl) (hyl : X.env.scope.names.lookup y = some .local := by rfl) (hs : ∀ x, foldedSetIterable iter X.env x = pure x := by intro _; rfl) :
    PDS τ X H0 (.Assign [.Name y py] (.ListComp elt [⟨tg, iter, ifs, 0⟩] scope pos) spos) (dSet i (dLc ti g tt te (own.map (·.2)))) := by
  refine ⟨fun Mu => PS.imp (ps_setLc (g := anG τ H0 X.N.length (own.map (·.2)) g) hc hN hy hyl hsw (hi.pi Mu) ok (fun s H C cl fp => (hg s H C cl fp).an) (fun s H C cl fp => (ht s H C cl fp).an) (fun s H C cl fp => (he s H C cl fp).an) hs) fun Z σ H hl h => ?_⟩
  obtain ⟨δ, K, e, h, q⟩ := setOk hy h
  exact ⟨δ, _, e, h, fun xs hx J H1 s1 w => lc_read hl δ K e q xs hx J H1 s1 w⟩
end
end Gf
namespace Gf
open PySem PySem.Spec PyProof.Rows L2
variable {τ : Tbs}
/-! ### zip of two lists or tuples, in any mix -/
def SqX (K : PySem.W.Frag) (k : Bool) (H : Hp) (a : Addr) (xs : List V) : Prop := match k with | true => SqL K H a xs | false => SqT K H a xs
def IterX (k : Bool) (h : Heap) (it a : Addr) (i : Nat) : Prop := match k with | true => h.IsListIter it a i | false => h.IsTupleIter it a i
def HoldX (k : Bool) (h : Heap) (a : Addr) (its : Array Value) : Prop := match k with | true => h.IsList a its | false => h.IsTuple a its
def oX (k : Bool) (a : Addr) : Obj := match k with | true => { cls := .type "list_iterator", data := .fields #[.ref a, .int 0 0] } | false => { cls := .type "tuple_iterator", data := .fields #[.ref a, .int 0 0] }
theorem IterX.at {k : Bool} {h h' : Heap} {it a : Addr} {i : Nat} (x : IterX k h it a i) (hk : ∀ o, h.get? it = some o → h'.get? it = some o) : IterX k h' it a i := by
  cases k with
  | true => exact Heap.IsListIter.at x hk
  | false => exact Heap.IsTupleIter.at x hk
theorem IterX.obj {k : Bool} {h : Heap} {it a : Addr} {i : Nat} (x : IterX k h it a i) : ∃ o, h.get? it = some o ∧ ∀ v, o.data ≠ .cell v := by
  cases k with
  | true => obtain ⟨o, e, _, d⟩ := x; exact ⟨o, e, fun v z => by rw [d] at z; cases z⟩
  | false => obtain ⟨o, e, _, d⟩ := x; exact ⟨o, e, fun v z => by rw [d] at z; cases z⟩
theorem IterX.start {k : Bool} {h : Heap} {it a : Addr} (e : h.get? it = some (oX k a)) : IterX k h it a 0 := by
  cases k with
  | true => exact ⟨_, e, rfl, rfl⟩
  | false => exact ⟨_, e, rfl, rfl⟩
theorem drawsX {prog : Program} {w : World} {A : Around} (hh : A.handled = none) (k : Bool) (it a : Addr) (hne : a ≠ it) (its : Array Value) :
    Draws prog w A it [it, a] its.size (fun i v => its[i]? = some v) (fun i h => IterX k h it a i ∧ HoldX k h a its) := by
  cases k with
  | true => exact Draws.list hh it a hne its
  | false => exact Draws.tuple hh it a hne its
theorem beginsX (k : Bool) (a : Addr) (its : Array Value) : Begins (.ref a) (oX k a) fun h => HoldX k h a its := by
  cases k with
  | true => exact begins_list a its
  | false => exact begins_tuple a its
section
variable {X : Cx} {pins : List (Addr × Obj)} {σ : L2.St} {H : Hp} {s : Shared} {a : Addr} {xs ys : List V} {k : Bool}
theorem Inv.seqX (I : Inv X pins σ H s) (h : SqX X.K k H a xs) : ∃ its : List Value, Vals xs its ∧ HoldX k s.heap a its.toArray ∧ a < s.heap.objs.size := by
  cases k with
  | true => obtain ⟨its, r, p, _⟩ := I.list h; exact ⟨its, r, p.isList, p.lt⟩
  | false => obtain ⟨its, r, p, _⟩ := I.tuple h; obtain ⟨o, ho, _⟩ := id p; exact ⟨its, r, p, Heap.lt_size ho⟩
theorem Inv.seqX_inj (I : Inv X pins σ H s) (h : SqX X.K k H a xs) (h' : SqX X.K k H a ys) : xs = ys := by
  cases k with
  | true => exact I.list_inj h h'
  | false => exact I.tuple_inj h h'
end
def ItM (K : PySem.W.Frag) (k1 k2 : Bool) (a b : Addr) : It :=
  ⟨fun i H => ∃ xs ys : List V, SqX K k1 H a xs ∧ SqX K k2 H b ys ∧ i < min xs.length ys.length,
    fun i H v H' => ∃ T x y, v = .ref T ∧ H T = none ∧ H' = upd H T (.tup [x, y]) ∧ (∀ xs, SqX K k1 H a xs → xs[i]? = some x) ∧ ∀ ys, SqX K k2 H b ys → ys[i]? = some y,
    fun i H => ∃ xs ys : List V, SqX K k1 H a xs ∧ SqX K k2 H b ys ∧ i = min xs.length ys.length⟩
theorem vals_at {xs : List V} {its : List Value} {i : Nat} {u : Value} (r : Vals xs its) (h : its.toArray[i]? = some u) : ∃ x, xs[i]? = some x ∧ RelV x u := by
  have h' : its[i]? = some u := by simpa using h
  cases e : xs[i]? with
  | none => rw [r.none_of e] at h'; cases h'
  | some x =>
    obtain ⟨u', e1, q⟩ := r.get e
    rw [h'] at e1
    cases e1
    exact ⟨x, rfl, q⟩
theorem turn_zipM {P : Program} {w : World} {K : PySem.W.Frag} {elts : List Expr} {kk : Nat} {tpos : Pos} {a b z TI TO i1 i2 : Addr} (k1 k2 : Bool) (Z : ZipSep2 z TI TO i1 i2 [i1, a] [i2, b]) (ai : a ≠ i1) (bi : b ≠ i2) :
    Turn P w K (.Tuple elts kk tpos) (ItM K k1 k2 a b) [z, TI, TO, i1, i2] z (fun i h => IsZip h z TI TO .none ∧ IsTupOf2 h TI (.ref i1) (.ref i2) ∧ (∃ a1 a2, IsTupOf2 h TO a1 a2) ∧ IterX k1 h i1 a i ∧ IterX k2 h i2 b i) where
  mem := by simp
  obj := fun i h st c hc => by
    obtain ⟨hz, hTI, ⟨x, y, hTO⟩, h1, h2⟩ := st
    have e' : c = z ∨ c = TI ∨ c = TO ∨ c = i1 ∨ c = i2 := by simpa using hc
    rcases e' with q | q | q | q | q
    · rw [q]; exact ⟨_, hz, fun v q => nomatch q⟩
    · rw [q]; exact ⟨_, hTI, fun v q => nomatch q⟩
    · rw [q]; exact ⟨_, hTO, fun v q => nomatch q⟩
    · rw [q]; exact h1.obj
    · rw [q]; exact h2.obj
  keep := fun i h h' st k => by
    obtain ⟨hz, hTI, ⟨x, y, hTO⟩, h1, h2⟩ := st
    exact ⟨k z (by simp) _ hz, k TI (by simp) _ hTI, ⟨x, y, k TO (by simp) _ hTO⟩, h1.at fun o q => k i1 (by simp) o q, h2.at fun o q => k i2 (by simp) o q⟩
  item := by
    intro X hP hw hK hc i pins s σ H E I hf st hg
    subst hP hw hK
    obtain ⟨hz, hTI, hTO, h1, h2⟩ := st
    obtain ⟨xs, ys, hqx, hqy, hi⟩ := hg
    obtain ⟨its, rv, p, _⟩ := Inv.seqX I hqx
    obtain ⟨its2, rv2, p2, _⟩ := Inv.seqX I hqy
    have l1 := rv.length
    have l2 := rv2.length
    have G := GoesN.zip2 (prog := X.prog) (w := X.w) (A := X.A) (elts := elts) (x1 := kk) (pos := tpos) Z (drawsX (A := X.A.in1) (by show X.A.handled = none; exact I.ok.hd hc) k1 i1 a ai its.toArray) (drawsX (A := X.A.in1) (by show X.A.handled = none; exact I.ok.hd hc) k2 i2 b bi its2.toArray)
    have lt5 : ∀ c ∈ [z, TI, TO, i1, i2], c < s.heap.objs.size := fun c hc => by
      obtain ⟨x, y, hTO'⟩ := hTO
      have e' : c = z ∨ c = TI ∨ c = TO ∨ c = i1 ∨ c = i2 := by simpa using hc
      rcases e' with q | q | q | q | q
      · rw [q]; exact Heap.lt_size hz
      · rw [q]; exact Heap.lt_size hTI
      · rw [q]; exact Heap.lt_size hTO'
      · rw [q]; obtain ⟨_, e1, _⟩ := h1.obj; exact Heap.lt_size e1
      · rw [q]; obtain ⟨_, e1, _⟩ := h2.obj; exact Heap.lt_size e1
    refine thn (G.goes i s (fun u s2 => ∃ x H', Inv X pins σ H' s2 ∧ RelV x u ∧ (ItM X.K k1 k2 a b).yld i H x H' ∧ (IsZip s2.heap z TI TO .none ∧ IsTupOf2 s2.heap TI (.ref i1) (.ref i2) ∧ (∃ a1 a2, IsTupOf2 s2.heap TO a1 a2) ∧ IterX k1 s2.heap i1 a (i + 1) ∧ IterX k2 s2.heap i2 b (i + 1)) ∧ ∀ c ∈ [z, TI, TO, i1, i2], H' c = none) E (by simpa [← l1, ← l2] using hi) ⟨hz, hTI, hTO, ⟨h1, p⟩, h2, p2⟩ fun v h' tk hY st' hk htk => ?_) fun r s1 q => q
    obtain ⟨T, u, u2, ev, hT, hu, hu2, hIs⟩ := hY
    subst ev
    obtain ⟨z', TI', TO', ⟨h1', _⟩, h2', _⟩ := st'
    obtain ⟨x, hx, ru⟩ := vals_at rv hu
    obtain ⟨y, hy, ru2⟩ := vals_at rv2 hu2
    have hsub : ∀ b, b ∈ [z, TO, i1, i2] → b ∈ [z, TI, TO, i1, i2] := fun b hb => by
      have e' : b = z ∨ b = TO ∨ b = i1 ∨ b = i2 := by simpa using hb
      rcases e' with q | q | q | q <;> simp [q]
    have new : ObjOk X.prog X.w (upd H T (.tup [x, y])) h' T (.tup [x, y]) := ⟨by show 2 ≤ sizeLine; decide, [u, u2], .cons ru (.cons ru2 .nil), hIs⟩
    refine ⟨.ref T, _, Inv.turnedNew (t' := tk) (ch := [z, TO, i1, i2]) I hk (fun b hb => hf b (hsub b hb)) hT new, rfl, ⟨T, x, y, rfl, I.hok.fresh hT, rfl, fun l hl => by rw [Inv.seqX_inj I hl hqx]; exact hx, fun l hl => by rw [Inv.seqX_inj I hl hqy]; exact hy⟩, ⟨z', TI', TO', h1', h2'⟩, fun c hcm => ?_⟩
    rw [upd_ne (Nat.ne_of_lt (Nat.lt_of_lt_of_le (lt5 c hcm) hT))]
    exact (hf c hcm).1
  done := by
    intro X hP hw hK hc i pins s σ H E I hf st hg
    subst hP hw hK
    obtain ⟨hz, hTI, hTO, h1, h2⟩ := st
    obtain ⟨xs, ys, hqx, hqy, hi⟩ := hg
    obtain ⟨its, rv, p, _⟩ := Inv.seqX I hqx
    obtain ⟨its2, rv2, p2, _⟩ := Inv.seqX I hqy
    have l1 := rv.length
    have l2 := rv2.length
    have G := GoesN.zip2 (prog := X.prog) (w := X.w) (A := X.A) (elts := elts) (x1 := kk) (pos := tpos) Z (drawsX (A := X.A.in1) (by show X.A.handled = none; exact I.ok.hd hc) k1 i1 a ai its.toArray) (drawsX (A := X.A.in1) (by show X.A.handled = none; exact I.ok.hd hc) k2 i2 b bi its2.toArray)
    have hsub : ∀ b, b ∈ [z, TO, i1, i2] → b ∈ [z, TI, TO, i1, i2] := fun b hb => by
      have e' : b = z ∨ b = TO ∨ b = i1 ∨ b = i2 := by simpa using hb
      rcases e' with q | q | q | q <;> simp [q]
    have ei : i = min its.toArray.size its2.toArray.size := by rw [hi, l1, l2]; simp
    rw [ei] at h1 h2
    exact thn (G.stops s (fun s1 => Inv X pins σ H s1) E ⟨hz, hTI, hTO, ⟨h1, p⟩, h2, p2⟩ fun h' tk hk htk => Inv.turnedL (t' := tk) (ch := [z, TO, i1, i2]) I hk fun b hb => hf b (hsub b hb)) fun r s1 q => q
  self := fun A i s Q E st h => wpAny_pyIter_zip st.1 h
section
variable {X : Cx} {H0 : Hp} {pos : Pos} {e e2 : Expr} {elts : List Expr}
def iZipM (K : PySem.W.Frag) (ta : TA) : TI := fun σ H R => ta σ H fun vs H1 => ∃ a b k1 k2 xs ys, vs = [.ref a, .ref b] ∧ SqX K k1 H1 a xs ∧ SqX K k2 H1 b ys ∧ R (ItM K k1 k2 a b) H1
theorem pi_zipM {ta : TA} {p tpos : Pos} {kk : Nat} (hg : Gl X "zip") (hm : X.mg "zip" = none) (ha : PA X [e, e2] ta)
    (hs : starEach [e, e2] X.env = (false, eval e X.env) :: starEach [e2] X.env := by rfl) (hpl : (backTo pos (starEach [e2] X.env)).any (·.1) = false := by rfl) :
    PI X (.Tuple elts kk tpos) (.Call (.Name "zip" p) [e, e2] [] pos) (iZipM X.K ta) := by
  refine ⟨fun pins s σ H R I h => ?_⟩
  refine Call_ (ld_blt I hg hm PyProof.Rows.boot_zip (PyProof.Rows.callWith_type1 (thn (ha.run pos pins s σ H _ I h) fun us s1 ⟨vs, H1, I1, r1, q1⟩ => ?_) hs hpl))
  obtain ⟨a, b, k1, k2, xs, ys, ex, hqx, hqy, q⟩ := q1
  subst ex
  cases r1 with
  | cons r rr =>
    cases rr with
    | cons r' rr =>
      cases rr
      cases r
      cases r'
      obtain ⟨its, rv, p1, la⟩ := Inv.seqX I1 hqx
      obtain ⟨its2, rv2, p2, lb⟩ := Inv.seqX I1 hqy
      refine zip_begins2 (beginsX k1 a its.toArray) (beginsX k2 b its2.toArray) p1 p2 fun h' hz hTI hTO g1 g2 hsz hk => wpAny_pyIter_zip hz ?_
      have I2 : Inv X pins σ H1 { s1 with heap := h' } := I1.kept (t' := s1.toks) hk
      refine ⟨s1.heap.objs.size + 4, [s1.heap.objs.size + 4, s1.heap.objs.size + 2, s1.heap.objs.size + 3, s1.heap.objs.size, s1.heap.objs.size + 1], _, _, H1, rfl, I2,
        turn_zipM k1 k2 (zip_sep2 (fp1 := [a]) (fp2 := [b]) (fun c hc => by rw [List.mem_singleton.mp hc]; exact la) fun c hc => by rw [List.mem_singleton.mp hc]; exact lb) (Nat.ne_of_lt la) (Nat.ne_of_lt (Nat.lt_succ_of_lt lb)), ⟨hz, hTI, ⟨_, _, hTO⟩, .start g1, .start g2⟩, fun c hcm => ?_, q⟩
      have e' : c = s1.heap.objs.size + 4 ∨ c = s1.heap.objs.size + 2 ∨ c = s1.heap.objs.size + 3 ∨ c = s1.heap.objs.size ∨ c = s1.heap.objs.size + 1 := by simpa using hcm
      have hle : s1.heap.objs.size ≤ c := by
        rcases e' with z | z | z | z | z <;> rw [z] <;> first | exact Nat.le_add_right _ _ | exact Nat.le_refl _
      exact I1.fpOk hle (I1.hok.fresh hle)
theorem dw_zip {Mu : Addr → Prop} {H1 : Hp} {K : PySem.W.Frag} {k1 k2 : Bool} {a b : Addr} {vs ws : List V} {ds es : List D} (ha : SqX K k1 H1 a vs) (hb : SqX K k2 H1 b ws) (ka : ∀ H2, SameM τ Mu H1 H2 → SqX K k1 H2 a vs) (kb : ∀ H2, SameM τ Mu H1 H2 → SqX K k2 H2 b ws)
    (ra : RA Mu H1 vs ds) (rb : RA Mu H1 ws es) : DW τ H1 Mu (ItM K k1 k2 a b) ((ds.zip es).map fun p => D.tup [p.1, p.2]) := fun Mu' m H2 s => by
  have e : ((ds.zip es).map fun p => D.tup [p.1, p.2]).length = min vs.length ws.length := by simp [ra.length, rb.length]
  refine ⟨fun i hi => ⟨vs, ws, ka H2 s, kb H2 s, by rw [← e]; exact hi⟩, ⟨vs, ws, ka H2 s, kb H2 s, e⟩, fun i x H3 hi y => ?_⟩
  obtain ⟨T, u, v, rfl, hT, rfl, f1, f2⟩ := y
  obtain ⟨d1, h1, r1⟩ := ra.get' (f1 vs (ka H2 s))
  obtain ⟨d2, h2, r2⟩ := rb.get' (f2 ws (kb H2 s))
  have ez : (ds.zip es)[i]? = some (d1, d2) := by simp [List.getElem?_zip_eq_some, h1, h2]
  refine ⟨same_new (τ := τ) hT, .tup [d1, d2], by rw [List.getElem?_map, ez]; rfl, .tup upd_same (.cons ?_ (.cons ?_ .nil))⟩
  · exact r1.widen m (s.trans (toM (same_new (τ := τ) hT)))
  · exact r2.widen m (s.trans (toM (same_new (τ := τ) hT)))
def seqOf : D → Option (List D) | .tup xs => some xs | .lst xs => some xs | _ => none
def dZip (t : DA) : DI := fun δ K => t δ fun ds => match ds with
  | [x, y] => (match seqOf x, seqOf y with | some xs, some ys => K ((xs.zip ys).map fun p => D.tup [p.1, p.2]) | _, _ => False)
  | _ => False
theorem R.seq {Mu : Addr → Prop} {H : Hp} {K : PySem.W.Frag} {v : V} {d : D} {xs : List D} (r : R Mu H v d) (h : seqOf d = some xs) : ∃ a k vs, v = .ref a ∧ SqX K k H a vs ∧ RA Mu H vs xs ∧ ∀ H2, SameM τ Mu H H2 → SqX K k H2 a vs := by
  cases r with
  | tup a1 a2 => cases h; exact ⟨_, false, _, rfl, SqT.of a1, a2, fun H2 s => SqT.of (s _ _ a1 fun ⟨_, e⟩ => nomatch e)⟩
  | lst a1 a3 a2 => cases h; exact ⟨_, true, _, rfl, SqL.of a1, a2, fun H2 s => SqL.of (s _ _ a1 fun _ => a3)⟩
  | _ => cases h
theorem pdi_zip {t : DA} {p tpos : Pos} {kk : Nat} (hg : Gl X "zip") (hm : X.mg "zip" = none) (ha : PDA τ X H0 [e, e2] t)
    (hs : starEach [e, e2] X.env = (false, eval e X.env) :: starEach [e2] X.env := by rfl) (hpl : (backTo pos (starEach [e2] X.env)).any (·.1) = false := by rfl) :
    PDI τ X H0 (.Tuple elts kk tpos) (.Call (.Name "zip" p) [e, e2] [] pos) (dZip t) := by
  refine ⟨fun Mu => PI.imp (pi_zipM hg hm (ha.pa Mu) hs hpl) fun σ H RR ⟨δ, K, e, h, q⟩ => ⟨δ, _, e, h, fun ds hd vs H' s r => ?_⟩⟩
  split at hd
  · split at hd
    · rename_i e1 e2
      cases r with
      | cons r1 r2 =>
        cases r2 with
        | cons r2 r3 =>
          cases r3
          obtain ⟨a, k1, us, rfl, q1, ra, ka⟩ := R.seq (τ := τ) (K := X.K) r1 e1
          obtain ⟨b, k2, ws, rfl, q2, rb, kb⟩ := R.seq (τ := τ) (K := X.K) r2 e2
          exact ⟨a, b, k1, k2, us, ws, rfl, q1, q2, q _ hd _ H' s (dw_zip q1 q2 ka kb ra rb)⟩
    · exact hd.elim
  · exact hd.elim
end
end Gf
namespace Gf
open PySem PySem.Spec PyProof.Rows L2
variable {τ : Tbs}
/-! ### t[::-1] of a tuple -/
section
variable {prog : Program} {w : World} {A : Around} {E : Value → Shared → Prop} {s : Shared}
theorem adjust_back (n : Nat) : Builtin.Slice.sliceAdjust none none (-1) (n : Int) = ((n : Int) - 1, -1) := by
  unfold Builtin.Slice.sliceAdjust
  rfl
theorem places_back (n : Nat) : Builtin.Slice.slicePlaces ((n : Int) - 1) (-1) (-1) = n := by
  unfold Builtin.Slice.slicePlaces
  have h1 : ¬ ((-1 : Int) > 0) := by omega
  have h2 : (- (-1 : Int)) = 1 := rfl
  simp only [h1, if_false, h2, Int.ediv_one]
  split <;> omega
theorem fm_congr {α β : Type} {f g : α → Option β} : ∀ {l : List α}, (∀ x ∈ l, f x = g x) → l.filterMap f = l.filterMap g
  | [], _ => rfl
  | a :: l, h => by rw [List.filterMap_cons, List.filterMap_cons, h a List.mem_cons_self, fm_congr fun x hx => h x (List.mem_cons_of_mem _ hx)]
theorem pick_back (xs : Array Value) : (List.range xs.size).filterMap (fun (m : Nat) => xs[((xs.size : Int) - 1 + (m : Int) * (-1)).toNat]?) = xs.toList.reverse := by
  rw [← PySem.W.krv_all xs, ← List.filterMap_reverse, ← PySem.W.krv_range, List.filterMap_map]
  refine fm_congr fun m hm => ?_
  have h : m < xs.size := List.mem_range.mp hm
  show xs[_]? = xs[xs.size - 1 - m]?
  have e : ((xs.size : Int) - 1 + (m : Int) * (-1)).toNat = xs.size - 1 - m := by omega
  rw [e]
theorem getItem_tuple_back {t sl : Addr} {items : Array Value} {vl vu vs : Value} {Q : Value → Shared → Prop} (ht : IsTup s.heap t items) (hs : s.heap.IsSliceOf sl vl vu vs) (pl : IsPart vl none) (pu : IsPart vu none) (ps : IsPart vs (some (-1)))
    (h : Q (.ref s.heap.objs.size) { s with heap := s.heap.push { cls := .type "tuple", data := .seq items.toList.reverse.toArray } })
    (hsz : items.size ≤ sizeLine) : wpAny (model prog w) A (getItem (.ref t) (.ref sl)) Q E s := by
  have htake : sizeOk (.seq items.toList.reverse.toArray) := by
    show items.toList.reverse.toArray.size ≤ sizeLine
    rw [List.size_toArray, List.length_reverse, Array.length_toList]
    exact hsz
  obtain ⟨os, hos, hcs, hds⟩ := id hs
  have hTs : s.TypeIs (.ref sl) "slice" := ⟨os, hos, hcs⟩
  unfold getItem
  try with_reducible refine wpAny_holding ?_
  first | refine wpAny_bind (wpAny_pure ?_) | skip
  refine wpAny_bind (wpAny_sequenceKey ht.typeIs (by decide) ?_)
  refine wpAny_bind (wpAny_callSpecial?_slot (name := Str.ofString "__getitem__") ht.typeIs PyProof.Rows.slot_tuple_getitem
    (wpAny_call_entry PyProof.Rows.slot_tuple_getitem ht.typeIs entry_tuple_getitem ?_ (args_tuple_getitem _ _)))
  show wpAny _ _ (Builtin.Tuple.tupleItemsOf (.ref t) >>= _) _ _ s
  refine wpAny_bind (tupleItemsOf_ ht ?_)
  refine wpAny_bind (wpAny_typeOf hTs ?_)
  rw [if_pos (by decide)]
  refine wpAny_bind (?_ : wpAny _ _ (Builtin.Slice.sliceApplied (.ref sl) (pure (items.size : Int))) _ _ s)
  unfold Builtin.Slice.sliceApplied Builtin.Slice.sliceFields
  refine wpAny_bind (wpAny_bind (wpAny_field hos hds (x := vl) rfl (wpAny_bind (wpAny_field hos hds (x := vu) rfl (wpAny_bind (wpAny_field hos hds (x := vs) rfl (wpAny_pure ?_)))))))
  refine wpAny_bind (HT.slicePart_ ps ?_)
  show wpAny _ _ (if ((-1 : Int) == 0) = true then _ else _) _ _ s
  rw [if_neg (by decide)]
  refine wpAny_bind (HT.slicePart_ pl (wpAny_bind (HT.slicePart_ pu (wpAny_bind (wpAny_pure ?_)))))
  show wpAny _ _ (match Builtin.Slice.sliceAdjust none none (-1) (items.size : Int) with | (lo, hi) => pure (lo, (-1 : Int), Builtin.Slice.slicePlaces lo hi (-1))) _ _ s
  rw [adjust_back]
  show wpAny _ _ (pure ((items.size : Int) - 1, (-1 : Int), Builtin.Slice.slicePlaces ((items.size : Int) - 1) (-1) (-1))) _ _ s
  rw [places_back]
  refine wpAny_pure ?_
  have hno : ¬ ((((items.size : Int) - 1) == 0 && (-1 : Int) == 1 && items.size == items.size) = true) := by
    intro q
    rw [Bool.and_eq_true, Bool.and_eq_true] at q
    exact absurd q.1.2 (by decide)
  show wpAny _ _ (if (((items.size : Int) - 1) == 0 && (-1 : Int) == 1 && items.size == items.size) = true then _ else _) _ _ s
  rw [if_neg hno, pick_back]
  first
    | exact wpAny_bind (m := Builtin.Tuple.tupleExact _) (wpAny_newObj_type (wpAny_pure ⟨_, rfl, wpAny_pure h⟩) htake)
    | exact wpAny_bind (m := Builtin.Tuple.tupleExact _) (wpAny_newObj_type (wpAny_bind (wpAny_pure (wpAny_pure ⟨_, rfl, wpAny_pure h⟩))) htake)
    | exact wpAny_bind (wpAny_bind (m := Builtin.Tuple.tupleExact _) (wpAny_newObj_type (wpAny_pure (wpAny_pure ⟨_, rfl, wpAny_pure h⟩)) htake))
    | exact wpAny_bind (wpAny_bind (m := Builtin.Tuple.tupleExact _) (wpAny_newObj_type (wpAny_pure ⟨_, rfl, wpAny_pure h⟩) htake))
end
section
variable {X : Cx} {H0 : Hp} {pos : Pos} {e : Expr} {te : DE}
/-- a list or a tuple backward -/
theorem pe_revA {te : TE} {k : Nat} {p1 p2 p3 : Pos} (he : PE X e te) : PE X (.Subscript e (.Slice none none (some (.UnaryOp .USub (.Constant (.int 1) k p1) p2)) p3) pos)
    (fun σ H Q => te σ H fun x H1 => (∃ a xs, x = .ref a ∧ H1 a = some (.lst xs) ∧ ∀ p, H1 p = none → Q (.ref p) (upd H1 p (.lst xs.reverse))) ∨ (∃ a xs, x = .ref a ∧ H1 a = some (.tup xs) ∧ ∀ p, H1 p = none → Q (.ref p) (upd H1 p (.tup xs.reverse)))) := by
  refine ⟨fun pins s σ H Q I h => ?_⟩
  refine Subscript_ (thn (he.run pins s σ H _ I h) fun v s1 ⟨x, H1, I1, r1, q1⟩ => ?_)
  have hst : PO X (some (.UnaryOp .USub (.Constant (.int 1) k p1) p2)) (tPart (tUn (rU fun i => .int (-i)) (tC (.int 1)))) := po_some (pe_un un_neg pe_int)
  refine wpAny_Slice (thn (po_none.run pins s1 σ H1 (fun o H2 => o = none ∧ H2 = H1) I1 ⟨rfl, rfl⟩) fun vl s2 ⟨l, H2, I2, pl, el, e2⟩ => ?_)
  subst el e2
  refine thn (po_none.run pins s2 σ H2 (fun o H3 => o = none ∧ H3 = H2) I2 ⟨rfl, rfl⟩) fun vu s3 ⟨u, H3, I3, pu, eu, e3⟩ => ?_
  subst eu e3
  refine thn (hst.run pins s3 σ H3 (fun o H4 => o = some (-1) ∧ H4 = H3) I3 ⟨1, rfl, -1, rfl, rfl, rfl⟩) fun vs s4 ⟨o, H4, I4, ps, eo, e4⟩ => ?_
  subst eo e4
  have I5 : Inv X pins σ H4 { s4 with heap := s4.heap.push { cls := .type "slice", data := .fields #[vl, vu, vs] } } := I4.kept (t' := s4.toks) fun b ob q => Heap.get?_push_of_some _ q
  show wpAny (model X.prog X.w) X.A (subscriptTail e (.Slice none none (some (.UnaryOp .USub (.Constant (.int 1) k p1) p2)) p3) v (.ref s4.heap.objs.size)) (EP X pins σ Q) X.xe { s4 with heap := s4.heap.push { cls := .type "slice", data := .fields #[vl, vu, vs] } }
  rcases q1 with ⟨a, xs, ex, hx, q⟩ | ⟨a, xs, ex, hx, q⟩
  · subst ex
    cases r1
    obtain ⟨its, r, ht, hz⟩ := I5.list (.of hx)
    have hlen := r.length
    refine tail_any (ops := [.ref a, .ref s4.heap.objs.size]) ht.isList.typeIs (PySem.slot_list_getitem.lookup) ?_ (by with_unfolding_all rfl)
    refine wpAny_getItem_list_slice ht.isList (Heap.IsSliceOf.new _ vl vu vs) pl pu ps (by decide) ?_ (by rw [List.size_toArray]; omega)
    rw [PySem.W.krv_pick]
    refine ⟨.ref _, _, I5.laid (t' := s4.toks) (o := .lst xs.reverse) (fun b ob q => Heap.get?_push_of_some _ q) (Nat.le_refl _) ?_, rfl, q _ (I5.hok.fresh (Nat.le_refl _))⟩
    exact ⟨by rw [List.length_reverse]; exact hz, _, 0, r.reverse, Heap.get?_push_size _ rfl⟩
  · subst ex
    cases r1
    obtain ⟨its, r, ht, hz⟩ := I5.tuple (.of hx)
    have hlen := r.length
    refine tail_any (ops := [.ref a, .ref s4.heap.objs.size]) ht.typeIs PyProof.Rows.slot_tuple_getitem.lookup ?_ (by with_unfolding_all rfl)
    refine getItem_tuple_back ht (Heap.IsSliceOf.new _ vl vu vs) pl pu ps ?_ (by rw [List.size_toArray]; omega)
    refine ⟨.ref _, _, I5.laid (t' := s4.toks) (o := .tup xs.reverse) (fun b ob q => Heap.get?_push_of_some _ q) (Nat.le_refl _) ?_, rfl, q _ (I5.hok.fresh (Nat.le_refl _))⟩
    exact ⟨by rw [List.length_reverse]; exact hz, _, r.reverse, IsTup.new _ _⟩
def dRev (te : DE) : DE := fun δ K => te δ fun d => match d with | .tup xs => K (.tup xs.reverse) | .lst xs => K (.lst xs.reverse) | _ => False
theorem pd_rev {k : Nat} {p1 p2 p3 : Pos} (he : PD τ X H0 e te) : PD τ X H0 (.Subscript e (.Slice none none (some (.UnaryOp .USub (.Constant (.int 1) k p1) p2)) p3) pos) (dRev te) := by
  refine ⟨fun Mu => PE.imp (pe_revA (he.pe Mu)) fun σ H Q ⟨δ, K, e, h, q⟩ => ⟨δ, _, e, h, fun d hd v H' s r => ?_⟩⟩
  split at hd
  · cases r with
    | tup a1 a2 => exact .inr ⟨_, _, rfl, a1, fun p hp => q _ hd _ _ (s.trans (same_new (τ := τ) hp)) (.tup upd_same (a2.rev.same (same_new (τ := τ) hp)))⟩
  · cases r with
    | lst a1 a3 a2 => exact .inl ⟨_, _, rfl, a1, fun p hp => q _ hd _ _ (s.trans (same_new (τ := τ) hp)) (.lst upd_same ((e.mu.same s).fresh hp) (a2.rev.same (same_new (τ := τ) hp)))⟩
  · exact hd.elim
/-! ### numbers -/
def dAbs : FD := fun ds K => match ds with | [.int i] => K (.int (if i < 0 then -i else i)) | _ => False
theorem cd_abs : CallD τ X (.builtin "abs") dAbs := by
  intro Mu pins s σ H xs us Q I r h
  obtain ⟨ds, K, mu, ra, h, q⟩ := h
  unfold dAbs at h
  split at h
  · cases ra with
    | cons r1 r2 =>
      cases r2
      cases r1
      exact call_abs pins s σ H _ us Q I r ⟨_, rfl, q _ h _ H (Same.refl H) (.int _)⟩
  · exact h.elim
def dInt : FD := fun ds K => match ds with | [.int i] => K (.int i) | [.bl b] => K (.int (if b then 1 else 0)) | _ => False
theorem cd_int : CallD τ X (.type "int") dInt := by
  intro Mu pins s σ H xs us Q I r h
  obtain ⟨ds, K, mu, ra, h, q⟩ := h
  unfold dInt at h
  split at h
  · cases ra with
    | cons r1 r2 =>
      cases r2
      cases r1
      exact call_int1 pins s σ H _ us Q I r (.inl ⟨_, rfl, q _ h _ H (Same.refl H) (.int _)⟩)
  · cases ra with
    | cons r1 r2 =>
      cases r2
      cases r1
      exact call_int1 pins s σ H _ us Q I r (.inr ⟨_, rfl, q _ h _ H (Same.refl H) (.int _)⟩)
  · exact h.elim
/-- max of two ints, or of a list of ints -/
def dMax : FD := fun ds K => match ds with
  | [.int i, .int j] => K (.int (if j > i then j else i))
  | [.lst xs] => ∃ ns : List Int, xs = ns.map D.int ∧ 0 < ns.length ∧ ∀ m, m ∈ ns → (∀ y, y ∈ ns → y ≤ m) → K (.int m)
  | _ => False
theorem cd_max (hc : X.calm = true) : CallD τ X (.builtin "max") dMax := by
  intro Mu pins s σ H xs us Q I r h
  obtain ⟨ds, K, mu, ra, h, q⟩ := h
  unfold dMax at h
  split at h
  · cases ra with
    | cons r1 r2 =>
      cases r2 with
      | cons r2 r3 =>
        cases r3
        cases r1
        cases r2
        exact call_max2 hc pins s σ H _ us Q I r ⟨_, _, rfl, q _ h _ H (Same.refl H) (.int _)⟩
  · obtain ⟨ns, rfl, hl, h⟩ := h
    cases ra with
    | cons r1 r2 =>
      cases r2
      cases r1 with
      | lst a1 a3 a2 =>
        have e := a2.ints
        subst e
        exact cr_max hc pins s σ H _ us Q I r ⟨_, ns, rfl, .of a1, hl, fun m h1 h2 => q _ (h m h1 h2) _ H (Same.refl H) (.int _)⟩
  · exact h.elim
/-- min of two ints, or of a list of ints -/
def dMin : FD := fun ds K => match ds with
  | [.int i, .int j] => K (.int (if j < i then j else i))
  | [.lst xs] => ∃ ns : List Int, xs = ns.map D.int ∧ 0 < ns.length ∧ ∀ m, m ∈ ns → (∀ y, y ∈ ns → m ≤ y) → K (.int m)
  | _ => False
theorem cd_min (hc : X.calm = true) : CallD τ X (.builtin "min") dMin := by
  intro Mu pins s σ H xs us Q I r h
  obtain ⟨ds, K, mu, ra, h, q⟩ := h
  unfold dMin at h
  split at h
  · cases ra with
    | cons r1 r2 =>
      cases r2 with
      | cons r2 r3 =>
        cases r3
        cases r1
        cases r2
        exact call_min2 hc pins s σ H _ us Q I r ⟨_, _, rfl, q _ h _ H (Same.refl H) (.int _)⟩
  · obtain ⟨ns, rfl, hl, h⟩ := h
    cases ra with
    | cons r1 r2 =>
      cases r2
      cases r1 with
      | lst a1 a3 a2 =>
        have e := a2.ints
        subst e
        exact cr_min hc pins s σ H _ us Q I r ⟨_, ns, rfl, .of a1, hl, fun m h1 h2 => q _ (h m h1 h2) _ H (Same.refl H) (.int _)⟩
  · exact h.elim
theorem sum_tup {prog : Program} {w : World} {A : Around} {E : Value → Shared → Prop} {s : Shared} {l : Addr} {its : List Value} {ns : List Int} {Q : Value → Shared → Prop} (hh : A.handled = none) (hl : s.heap.IsTuple l its.toArray) (hi : IntsAre its ns)
    (h : ∀ h' tk t', (∀ b o, s.heap.get? b = some o → h'.get? b = some o) → Q (.int ns.sum t') { s with heap := h', toks := tk }) : wpAny (model prog w) A (call (.builtin "sum") [.ref l]) Q E s := by
  obtain ⟨xs, e⟩ := hi.allInts.items
  have hn : numsOf (intItems xs).toList = ns := by rw [← e]; exact hi.numsOf
  rw [nums_intItems] at hn
  rw [e] at hl
  refine PySem.W.ktm_sumG hh hl fun h' tk t' hk => ?_
  have := h h' tk t' hk
  rw [preSum_eq, List.take_of_length_le (by simp), hn]
  exact this
/-- sum of a list or a tuple of ints -/
def dSum : FD := fun ds K => match ds with
  | [.lst xs] => ∃ ns : List Int, xs = ns.map D.int ∧ K (.int ns.sum)
  | [.tup xs] => ∃ ns : List Int, xs = ns.map D.int ∧ K (.int ns.sum)
  | _ => False
theorem cd_sum (hc : X.calm = true) : CallD τ X (.builtin "sum") dSum := by
  intro Mu pins s σ H xs us Q I r h
  obtain ⟨ds, K, mu, ra, h, q⟩ := h
  unfold dSum at h
  split at h
  · obtain ⟨ns, rfl, h⟩ := h
    cases ra with
    | cons r1 r2 =>
      cases r2
      cases r1 with
      | lst a1 a3 a2 =>
        have e := a2.ints
        subst e
        exact cr_sum hc pins s σ H _ us Q I r ⟨_, ns, rfl, .of a1, q _ h _ H (Same.refl H) (.int _)⟩
  · obtain ⟨ns, rfl, h⟩ := h
    cases ra with
    | cons r1 r2 =>
      cases r2
      cases r1 with
      | tup a1 a2 =>
        have e := a2.ints
        subst e
        obtain ⟨its, rv, hl, _⟩ := I.tuple (.of a1)
        rw [Vals.ref1 r]
        exact sum_tup (I.ok.hd hc) hl rv.ints fun h' tk t' hk => ⟨.int _, H, I.kept hk, ⟨_, rfl⟩, q _ h _ H (Same.refl H) (.int _)⟩
  · exact h.elim
/-! ### isinstance -/
def tyName : D → Option String | .non => some "NoneType" | .bl _ => some "bool" | .int _ => some "int" | .str _ => some "str" | .tup _ => some "tuple" | .lst _ => some "list" | .raw _ => none | .spr => none | .hob _ => none | .fnc _ _ _ _ _ _ => none
def isTy (d : D) (n : String) : Option Bool := match tyName d with | some a => kitB a n | none => none
def dIsi : FD := fun ds K => match ds with
  | [d, .raw (.ty n)] => (match isTy d n with | some b => K (.bl b) | none => False)
  | [d, .tup [.raw (.ty n), .raw (.ty m)]] => (match isTy d n, isTy d m with | some b, some c => K (.bl (b || c)) | _, _ => False)
  | _ => False
theorem R.ty {Mu : Addr → Prop} {H : Hp} {K : PySem.W.Frag} {v : V} {d : D} {n : String} (r : R Mu H v d) (h : tyName d = some n) : TyX K H v (.type n) := by
  cases r with
  | non => cases h; exact .base .non
  | bl b => cases h; exact .base (.bl b)
  | int i => cases h; exact .base (.int i)
  | str x => cases h; exact .base (.str x)
  | tup a1 a2 => cases h; exact .base (.tup a1)
  | lst a1 a3 a2 => cases h; exact .base (.lst a1)
  | raw v => cases h
  | spr e _ => cases h
  | hob => cases h
  | fnc => cases h
theorem isTy_some {d : D} {n : String} {b : Bool} (h : isTy d n = some b) : ∃ a, tyName d = some a ∧ kitB a n = some b := by
  unfold isTy at h
  split at h
  · rename_i a e
    exact ⟨a, e, h⟩
  · cases h
theorem cd_isi : CallD τ X (.builtin "isinstance") dIsi := by
  intro Mu pins s σ H xs us Q I r h
  obtain ⟨ds, K, mu, ra, h, q⟩ := h
  unfold dIsi at h
  split at h
  · split at h
    · rename_i b e
      obtain ⟨a, e1, e2⟩ := isTy_some e
      cases ra with
      | cons r1 r2 =>
        cases r2 with
        | cons r2 r3 =>
          cases r3
          cases r2
          exact call_isi pins s σ H _ us Q I r ⟨_, _, _, _, b, rfl, .ty _, r1.ty e1, kit_ty e2, q _ h _ H (Same.refl H) (.bl _)⟩
    · exact h.elim
  · split at h
    · rename_i b c e e'
      obtain ⟨a, e1, e2⟩ := isTy_some e
      obtain ⟨a', e3, e4⟩ := isTy_some e'
      rw [e1] at e3
      cases e3
      cases ra with
      | cons r1 r2 =>
        cases r2 with
        | cons r2 r3 =>
          cases r3
          cases r2 with
          | tup a1 a2 =>
            cases a2 with
            | cons b1 b2 =>
              cases b2 with
              | cons b2 b3 =>
                cases b3
                cases b1
                cases b2
                refine call_isiT pins s σ H _ us Q I r ⟨_, _, _, _, _, b || c, rfl, a1, .cons (.ty _) (.cons (.ty _) .nil), r1.ty e1, kitAny_cons (kit_ty e2) (fun hb => kitAny_cons (kit_ty e4) (fun hc => ?_) fun hc => ?_) fun hb => ?_, q _ h _ H (Same.refl H) (.bl _)⟩
                · rw [hb, hc]; exact kitAny_nil
                · rw [hb, hc]; rfl
                · rw [hb]; rfl
    · exact h.elim
  · exact h.elim
end
end Gf
namespace Gf
open PySem PySem.Spec PyProof.Rows L2
variable {τ : Tbs}
/-! ### defs -/
def startD (m : Nat) (ds : List D) : DSt := ds.map some ++ List.replicate (m - ds.length) none
theorem es_start {Mu : Addr → Prop} {H : Hp} {N : List Str} {vs : List V} {ds : List D} (mu : MuT Mu H) (r : RA Mu H vs ds) : ES τ Mu H H (L2.start N vs) (startD N.length ds) := by
  refine ⟨mu, Same.refl H, fun i d h => ?_⟩
  unfold startD at h
  unfold L2.start
  by_cases hi : i < ds.length
  · rw [List.getElem?_append_left (by simpa using hi), List.getElem?_map] at h
    have hi' : i < vs.length := by rw [r.length]; exact hi
    rw [List.getElem?_append_left (by simpa using hi'), List.getElem?_map]
    cases e : ds[i]? with
    | none => rw [e] at h; cases h
    | some d' =>
      rw [e] at h
      cases h
      obtain ⟨v, e1, rv⟩ := r.get e
      exact ⟨v, by rw [e1]; rfl, rv⟩
  · rw [List.getElem?_append_right (by simpa using hi), List.getElem?_replicate] at h
    split at h <;> cases h
/-- the names of a def's parameters -/
def psOf (a : Arguments) : List Str := a.args.map (·.arg)
/-- a def of the text, bound to its name -/
structure At (K : PySem.W.Frag) (mg : Str → Option Value) (x : Str) (st : Stmt) (ps : List Str) (f : Addr) (fd : FuncData) : Prop where
  fn : Fun K x x st f fd
  mg_ : mg x = some (.ref f)
  bd : Binds K fd ps []
  ps_ : ps = psOf (defArgs st)
/-- what a name's def is worth -/
structure DF (τ : Tbs) (P : Program) (w : World) (K : PySem.W.Frag) (mg : Str → Option Value) (base : Heap) (x : Str) (k n : Nat) (F : FD) : Prop where
  ex : ∃ f fd ps, FnOk P w K mg base CX0 k f fd ps (spD τ n F) ∧ mg x = some (.ref f) ∧ PySem.W.keepIn K (.ref f) = true ∧ Binds K fd ps [] ∧ ∃ st, Fun K x x st f fd ∧ ps = psOf (defArgs st)
section
variable {P : Program} {w : World} {K : PySem.W.Frag} {mg : Str → Option Value} {base : Heap}
theorem At.ok {x : Str} {st : Stmt} {f : Addr} {fd : FuncData} {N ps : List Str} {k n : Nat} {F : FD} (A : At K mg x st ps f fd) (S : FnScope N ps (defScope st)) (hn : ps.length = n) (t : DTS)
    (hb : ∀ (cdv : Value) (A : Around) (outer : List Env) (s : Shared) (H : Hp) (E : XK), Room k (A.deeper (envOfC x (defScope st) s.heap.objs.size f cdv)) → PDSs τ (cxOf CX0 P w K mg base N x (defScope st) f cdv A outer s H E).nox H (defBody st) t)
    (h : ∀ ds Q, ds.length = n → F ds Q → t { nx := fun _ => Q .non, rt := Q } (startD N.length ds)) : DF τ P w K mg base x (k + 1) n F := by
  refine ⟨f, fd, ps, A.fn.ok S (fun vs H Q E hsp => ?_) (fun cdv A' outer s H vs Q E hr hsp => ?_), A.mg_, A.fn.kp, A.bd, st, A.fn, A.ps_⟩
  · obtain ⟨Mu, ds, K', mu, r, hl, _⟩ := hsp
    rw [r.length, hl, hn]
  · obtain ⟨Mu, ds, K', mu, r, hl, hF, q⟩ := hsp
    have hpl : ps.length ≤ N.length := by have := congrArg List.length S.pre; rw [List.length_take] at this; omega
    refine ⟨_, (hb cdv A' outer s H E hr).pss Mu, ?_, startD N.length ds, _, es_start mu r, h ds K' hl hF, ?_⟩
    · unfold L2.start
      show _ = N.length
      rw [List.length_append, List.length_map, List.length_replicate, r.length, hl, ← hn]
      omega
    · exact ⟨fun δ' h' σ' H' _ s' _ => q _ h' _ H' s' .non, q, fun _ h' _ _ _ _ _ => h'.elim, fun _ h' _ _ _ _ _ => h'.elim⟩
theorem DF.mono {x : Str} {j k n : Nat} {F : FD} (d : DF τ P w K mg base x j n F) (h : j ≤ k) : DF τ P w K mg base x k n F := by
  obtain ⟨f, fd, ps, G, a, b, c⟩ := d.ex
  exact ⟨f, fd, ps, G.mono h, a, b, c⟩
theorem DF.imp {x : Str} {k n : Nat} {F F' : FD} (d : DF τ P w K mg base x k n F) (h : ∀ ds Q, ds.length = n → F' ds Q → F ds Q) : DF τ P w K mg base x k n F' := by
  obtain ⟨f, fd, ps, G, a, b, c⟩ := d.ex
  exact ⟨f, fd, ps, G.imp fun vs H Q E ⟨Mu, ds, K', mu, r, hl, hF, q⟩ => ⟨Mu, ds, K', mu, r, hl, h ds K' hl hF, q⟩, a, b, c⟩
end
section
variable {X : Cx} {H0 : Hp} {pos : Pos} {e : Expr} {es : List Expr} {t : DA}
theorem pd_callD {x : Str} {p : Pos} {j k n : Nat} {F : FD} (d : DF τ X.prog X.w X.K X.mg X.base x j n F) (hr : Room k X.A) (ha : PDA τ X H0 (e :: es) t) (hjk : j ≤ k := by decide) (hg : Gl X x := by rfl) (hdb : (x == ("__debug__" : Str)) = false := by decide)
    (he : starEach (e :: es) X.env = (false, eval e X.env) :: starEach es X.env := by rfl) (hpl : (backTo pos (starEach es X.env)).any (·.1) = false := by rfl) : PD τ X H0 (.Call (.Name x p) (e :: es) [] pos) (dCall n F t) := by
  obtain ⟨f, fd, ps, G, a, b, c, _⟩ := d.ex
  exact pd_call G (hr.mono hjk) hg a b c pass0 ha hdb he hpl
end
end Gf
namespace Gf
open PySem PySem.Spec PyProof.Rows L2
variable {τ : Tbs}
/-! ### readings, unfolded -/
theorem dAt_zero (o : Option D) (l : DSt) : dAt (o :: l) 0 = o := by cases o <;> rfl
theorem dAt_succ (o : Option D) (l : DSt) (n : Nat) : dAt (o :: l) (n + 1) = dAt l n := rfl
def plainD (d : D) : Prop := tyName d ≠ none
def isIntD : D → Bool | .int _ => true | .bl _ => true | _ => false
theorem k_NoneType_int : kitB "NoneType" "int" = some false := by decide +kernel
theorem k_bool_int : kitB "bool" "int" = some true := by decide +kernel
theorem k_int_int : kitB "int" "int" = some true := by decide +kernel
theorem k_str_int : kitB "str" "int" = some false := by decide +kernel
theorem k_tuple_int : kitB "tuple" "int" = some false := by decide +kernel
theorem k_list_int : kitB "list" "int" = some false := by decide +kernel
theorem isTy_int {d : D} (h : plainD d) : isTy d "int" = some (isIntD d) := by
  cases d <;> first | exact absurd rfl h | exact k_NoneType_int | exact k_bool_int | exact k_int_int | exact k_str_int | exact k_tuple_int | exact k_list_int
def isBoolD : D → Bool | .bl _ => true | _ => false
theorem k_NoneType_bool : kitB "NoneType" "bool" = some false := by decide +kernel
theorem k_bool_bool : kitB "bool" "bool" = some true := by decide +kernel
theorem k_int_bool : kitB "int" "bool" = some false := by decide +kernel
theorem k_str_bool : kitB "str" "bool" = some false := by decide +kernel
theorem k_tuple_bool : kitB "tuple" "bool" = some false := by decide +kernel
theorem k_list_bool : kitB "list" "bool" = some false := by decide +kernel
theorem isTy_bool {d : D} (h : plainD d) : isTy d "bool" = some (isBoolD d) := by
  cases d <;> first | exact absurd rfl h | exact k_NoneType_bool | exact k_bool_bool | exact k_int_bool | exact k_str_bool | exact k_tuple_bool | exact k_list_bool
def isTupD : D → Bool | .tup _ => true | _ => false
theorem k_NoneType_tuple : kitB "NoneType" "tuple" = some false := by decide +kernel
theorem k_bool_tuple : kitB "bool" "tuple" = some false := by decide +kernel
theorem k_int_tuple : kitB "int" "tuple" = some false := by decide +kernel
theorem k_str_tuple : kitB "str" "tuple" = some false := by decide +kernel
theorem k_tuple_tuple : kitB "tuple" "tuple" = some true := by decide +kernel
theorem k_list_tuple : kitB "list" "tuple" = some false := by decide +kernel
theorem isTy_tuple {d : D} (h : plainD d) : isTy d "tuple" = some (isTupD d) := by
  cases d <;> first | exact absurd rfl h | exact k_NoneType_tuple | exact k_bool_tuple | exact k_int_tuple | exact k_str_tuple | exact k_tuple_tuple | exact k_list_tuple
def isLstD : D → Bool | .lst _ => true | _ => false
theorem k_NoneType_list : kitB "NoneType" "list" = some false := by decide +kernel
theorem k_bool_list : kitB "bool" "list" = some false := by decide +kernel
theorem k_int_list : kitB "int" "list" = some false := by decide +kernel
theorem k_str_list : kitB "str" "list" = some false := by decide +kernel
theorem k_tuple_list : kitB "tuple" "list" = some false := by decide +kernel
theorem k_list_list : kitB "list" "list" = some true := by decide +kernel
theorem isTy_list {d : D} (h : plainD d) : isTy d "list" = some (isLstD d) := by
  cases d <;> first | exact absurd rfl h | exact k_NoneType_list | exact k_bool_list | exact k_int_list | exact k_str_list | exact k_tuple_list | exact k_list_list
def isStrD : D → Bool | .str _ => true | _ => false
theorem k_NoneType_str : kitB "NoneType" "str" = some false := by decide +kernel
theorem k_bool_str : kitB "bool" "str" = some false := by decide +kernel
theorem k_int_str : kitB "int" "str" = some false := by decide +kernel
theorem k_str_str : kitB "str" "str" = some true := by decide +kernel
theorem k_tuple_str : kitB "tuple" "str" = some false := by decide +kernel
theorem k_list_str : kitB "list" "str" = some false := by decide +kernel
theorem isTy_str {d : D} (h : plainD d) : isTy d "str" = some (isStrD d) := by
  cases d <;> first | exact absurd rfl h | exact k_NoneType_str | exact k_bool_str | exact k_int_str | exact k_str_str | exact k_tuple_str | exact k_list_str
theorem b_len : bootBuiltins "len" = some (.builtin "len") := by decide +kernel
theorem b_all : bootBuiltins "all" = some (.builtin "all") := by decide +kernel
theorem b_tuple : bootBuiltins "tuple" = some (.type "tuple") := by decide +kernel
theorem b_list : bootBuiltins "list" = some (.type "list") := by decide +kernel
theorem b_abs : bootBuiltins "abs" = some (.builtin "abs") := by decide +kernel
theorem b_int : bootBuiltins "int" = some (.type "int") := by decide +kernel
theorem b_bool : bootBuiltins "bool" = some (.type "bool") := by decide +kernel
theorem b_str : bootBuiltins "str" = some (.type "str") := by decide +kernel
theorem b_max : bootBuiltins "max" = some (.builtin "max") := by decide +kernel
theorem b_min : bootBuiltins "min" = some (.builtin "min") := by decide +kernel
theorem b_sum : bootBuiltins "sum" = some (.builtin "sum") := by decide +kernel
theorem b_ValueError : bootBuiltins "ValueError" = some (.type "ValueError") := by decide +kernel
theorem b_isinstance : bootBuiltins "isinstance" = some (.builtin "isinstance") := by decide +kernel
theorem b_sorted : bootBuiltins "sorted" = some (.builtin "sorted") := by decide +kernel
theorem b_set : bootBuiltins "set" = some (.type "set") := by decide +kernel
end Gf
set_option maxHeartbeats 3200000
namespace Gf
open PySem PySem.Spec PyProof.Rows L2
variable {τ : Tbs}
/-! ### set(t), t a tuple of tuples of ints -/
/-- a set as it is made -/
abbrev emptySet (w : World) : Obj := { cls := .type "set", dict := none, data := .set #[] 0 (.fresh 0 0 (!w.params.followText "set-order")) }
abbrev pE (w : World) (h : Heap) : Heap := h.push (emptySet w)
theorem set_of_tuple {prog : Program} {w : World} {A : Around} {E : Value → Shared → Prop} {s : Shared} {l : Addr} {items : Array Value} (ks : List (Addr × List Int)) {Q : Value → Shared → Prop} (hh : A.handled = none) (hl : s.heap.IsTuple l items) (hit : items.toList = ks.map fun p => Value.ref p.1)
    (hk : ∀ p ∈ ks, IsT prog w s.heap p.2 p.1) (hfew : ks.length < 64) (hu : A.units + 3 < cLine)
    (h : ∀ (h' : Heap) (tk : Nat) L es ep t, SetTR prog w h' s.heap.objs.size L es ep t → Got ks ks.length L → (∀ b o, s.heap.get? b = some o → h'.get? b = some o) → Q (.ref s.heap.objs.size) { s with heap := h', toks := tk }) :
    wpAny (model prog w) A (call (.type "set") [.ref l]) Q E s := by
  have hisz : items.size = ks.length := by
    have q := congrArg List.length hit
    rw [Array.length_toList, List.length_map] at q
    exact q
  obtain ⟨c, tl, hmro⟩ := F.called_set.mro
  have hmade := F.called_set.made
  have hsub := F.called_set.sub
  refine wpAny_call (codeAny_of_tree ?_)
  show wpAny _ _ (callAny (.type "set") _) _ _ _
  refine wpAny_pure ⟨Code.quiet_builtin _ (by decide +kernel), codeAny_builtin F.entry_type_call ?_⟩
  rw [Around.under_plain (weight_type_call_type "set" [.ref l] []) rfl]
  have h1 := F.called_set.notType
  have h2 := F.called_set.canCreate
  have hct := F.typeCall_set_1 (.ref l)
  repeat (any_goals (first | assumption | wp_step))

  refine codeAny_mono (code_set_led1 (.ref l) (E := E) (Q₁ := fun obj s₁ => obj = .ref s.heap.objs.size ∧ s₁ = { s with heap := s.heap.push (emptySet w) }) ⟨rfl, rfl⟩) fun r s₁ hr => ?_
  cases r with
  | error e => exact hr
  | ok fl =>
    cases fl with
    | ret obj =>
      obtain ⟨rfl, rfl⟩ := hr
      have hS : (pE w s.heap).get? s.heap.objs.size = some (emptySet w) := Heap.get?_push_size _ rfl
      have hT : Shared.TypeIs { s with heap := s.heap.push (emptySet w) } (.ref s.heap.objs.size) "set" := ⟨_, hS, rfl⟩
      have hli := F.called_set.init.lookup
      have hbi := F.called_set.init.bind (.ref s.heap.objs.size)
      repeat (any_goals (first | assumption | wp_step))

      refine codeAny_mono (codeAny_call_builtin (R := wants (fun r s₂ => r = .none ∧ ∃ h' tk L es ep t, s₂ = { s with heap := h', toks := tk } ∧ SetTR prog w h' s.heap.objs.size L es ep t ∧ Got ks ks.length L ∧
          (∀ b o, s.heap.get? b = some o → h'.get? b = some o)) E) F.called_set.init.plain F.entry_set_init (check_set_init_1 hT ?_)) fun r₂ s₂ hr₂ => ?_
      · obtain ⟨ol, hol, hcl, nl, hdl⟩ := hl
        obtain ⟨ocls, odict, odata, oslots⟩ := ol
        simp only at hcl hdl
        subst hcl; subst hdl
        have hol' : (pE w s.heap).get? l = some { cls := .type "tuple", dict := odict, data := .seq items nl, slots := oslots } := Heap.get?_push_of_some _ hol
        have hsls := F.sub_tuple_set
        have hslf := F.sub_tuple_frozenset
        have hne : (Value.type "tuple" == Value.type "dict") = false := by decide
        have hl1 : (pE w s.heap).IsTuple l items := ⟨_, hol', rfl, nl, rfl⟩
        unfold Builtin.«set.__init__» noKeywords Builtin.Frozenset.updateFrom
        generalize hPI : pyIter = PI
        wp_walk
        subst hPI

        refine wpAny_pyIter_tuple hl1 ?_
        refine wpAny_bind (wpAny_runValue ?_)
        have hlS : l < s.heap.objs.size := Heap.lt_size hol
        have hh3 : A.in1.in1.in1.handled = none := by simp [hh]
        have hz1 : (pE w s.heap).objs.size = s.heap.objs.size + 1 := Heap.size_push ..
        have hneI : l ≠ (pE w s.heap).objs.size := by
          rw [Heap.size_push]; exact Nat.ne_of_lt (Nat.lt_succ_of_lt hlS)
        have hSf : s.heap.objs.size ∉ [(pE w s.heap).objs.size, l] := by
          rw [Heap.size_push]; simp only [List.mem_cons, List.mem_singleton, List.not_mem_nil, or_false, not_or]
          exact ⟨Nat.ne_of_lt (Nat.lt_succ_self _), Nat.ne_of_gt hlS⟩
        have hval : ∀ (i : Nat) (v : Value), items[i]? = some v → ∃ p, ks[i]? = some p ∧ v = .ref p.1 := fun i v hv => by
          have q : items.toList[i]? = some v := by rw [Array.getElem?_toList]; exact hv
          rw [hit, List.getElem?_map] at q
          cases hq : ks[i]? with
          | none => rw [hq] at q; cases q
          | some p =>
            rw [hq] at q
            exact ⟨p, rfl, (Option.some.inj q).symm⟩
        have none_of : ∀ b, s.heap.objs.size ≤ b → s.heap.get? b = none := fun b hb => by
          cases q : s.heap.get? b with
          | none => rfl
          | some o => exact absurd (Nat.lt_of_lt_of_le (Heap.lt_size q) hb) (Nat.lt_irrefl _)
        refine set_update_tups ((Walks.tuple hh3 _ l hneI items).toS) s.heap.objs.size
          hSf ks hisz hfew hval s.heap hk (none_of _ (Nat.le_refl _)) (fun b hb => none_of b (by
            rw [List.mem_singleton.mp hb, Heap.size_push]
            exact Nat.le_succ _)) hu (items.size - 0) 0 _ (by omega) (Nat.zero_le _)
          ⟨⟨_, Heap.get?_push_size _ rfl, rfl, rfl⟩, (hl1.push _)⟩ (fun b o e => Heap.get?_push_of_some _ (Heap.get?_push_of_some _ e)) ?hS0 ?hR
        case hS0 =>
          have hget : ((pE w s.heap).push { cls := .type "tuple_iterator", data := .fields #[.ref l, .int 0 0] }).get? s.heap.objs.size
              = some (emptySet w) := Heap.get?_push_of_some _ hS
          exact ⟨[], #[], 0, _, setTR_fresh hget, Got.zero ks⟩
        case hR =>
          intro s' L es ep t hm hS' g' hkp
          obtain ⟨h', g2, d', tk', os'⟩ := s'
          have eg : g2 = s.gens := hm.gens
          have ed : d' = s.drawn := hm.drawn
          have eo : os' = s.os := hm.os
          subst eg; subst ed; subst eo
          show wpAny _ _ _ _ _ _
          refine wpAny_pure ?_
          show wpAny _ _ (ret Value.none) _ _ _
          rw [hisz] at g'
          exact wpAny_pure ⟨rfl, h', tk', L, es, ep, t, rfl, hS', g', hkp⟩

      · cases r₂ with
        | error e => exact hr₂
        | ok fl₂ =>
          cases fl₂ with
          | ret r =>
            obtain ⟨rfl, h', tk, L, es, ep, t, rfl, hS', g', hk'⟩ := hr₂
            repeat (any_goals (first | assumption | wp_step))
            exact h _ _ _ _ _ _ hS' g' hk'
          | _ => exact hr₂.elim
    | _ => exact hr.elim

end Gf
namespace Gf
open PySem PySem.Spec PyProof.Rows L2
variable {τ : Tbs}
/-! ### sorted of pairs of ints: lists, tuples, sets of them -/
abbrev AP := Addr × (Int × Int)
def leP (p q : Int × Int) : Bool := decide (p.1 < q.1 ∨ (p.1 = q.1 ∧ p.2 ≤ q.2))
def encP (b : AP) : PyData := .tuple [.int b.2.1, .int b.2.2]
def PairAt (h : Heap) (b : AP) : Prop := ∃ o t u n, h.get? b.1 = some o ∧ o.cls = .type "tuple" ∧ o.data = .seq #[.int b.2.1 t, .int b.2.2 u] n
theorem PairAt.keep {h h' : Heap} {b : AP} (p : PairAt h b) (k : ∀ b o, h.get? b = some o → h'.get? b = some o) : PairAt h' b := by
  obtain ⟨o, t, u, n, a, r⟩ := p
  exact ⟨o, t, u, n, k _ _ a, r⟩
theorem PairAt.reads {h : Heap} {b : AP} (p : PairAt h b) : Reads h (.ref b.1) (encP b) [] := by
  obtain ⟨o, t, u, n, a, c, d⟩ := p
  exact .tuple (as := [] ++ ([] ++ [])) a c d (.cons (.int _ _) (.cons (.int _ _) .nil))
def refs (bs : List AP) : List Value := bs.map fun b => .ref b.1
def refsV (bs : List AP) : List V := bs.map fun b => .ref b.1
theorem refs_vals : ∀ bs : List AP, Vals (refsV bs) (refs bs)
  | [] => .nil
  | b :: bs => .cons rfl (refs_vals bs)
theorem vals_refs : ∀ {bs : List AP} {us : List Value}, Vals (refsV bs) us → us = refs bs
  | [], _, .nil => rfl
  | b :: bs, _, .cons r t => by
    cases r
    rw [vals_refs t]
    rfl
theorem perm_map {α β : Type} {f : α → β} {l m : List β} (h : l.Perm m) : ∀ bs : List α, m = bs.map f → ∃ bs' : List α, l = bs'.map f ∧ bs'.Perm bs := by
  induction h with
  | nil => exact fun bs e => ⟨bs, e, .refl _⟩
  | cons x _ ih =>
    intro bs e
    cases bs with
    | nil => cases e
    | cons b bs =>
      rw [List.map_cons] at e
      injection e with e1 e2
      obtain ⟨bs', h1, h2⟩ := ih bs e2
      exact ⟨b :: bs', by rw [List.map_cons, h1, e1], h2.cons b⟩
  | swap x y l =>
    intro bs e
    cases bs with
    | nil => cases e
    | cons b bs =>
      cases bs with
      | nil => rw [List.map_cons] at e; injection e with e1 e2; cases e2
      | cons c bs =>
        rw [List.map_cons, List.map_cons] at e
        injection e with e1 e2
        injection e2 with e2 e3
        exact ⟨c :: b :: bs, by rw [List.map_cons, List.map_cons, ← e1, ← e2, ← e3], .swap b c bs⟩
  | trans _ _ ih1 ih2 =>
    intro bs e
    obtain ⟨b1, h1, h2⟩ := ih2 bs e
    obtain ⟨b2, h3, h4⟩ := ih1 b1 h1
    exact ⟨b2, h3, h4.trans h2⟩
theorem each_refs : ∀ bs : List AP, PySem.W.EachIs (fun (v : Value) (b : AP) => v = .ref b.1) (refs bs) bs
  | [] => .nil
  | b :: bs => .cons rfl (each_refs bs)
theorem refs_each : ∀ {out : List Value} {bs : List AP}, PySem.W.EachIs (fun (v : Value) (b : AP) => v = .ref b.1) out bs → out = refs bs
  | _, _, .nil => rfl
  | _, _, .cons e t => by rw [e, refs_each t]; rfl
theorem each_reads {h : Heap} {a : Addr} : ∀ bs : List AP, (∀ b ∈ bs, PairAt h b) → PySem.W.EachIs (fun (v : Value) (b : AP) => ∃ as, Reads h v (encP b) as ∧ a ∉ as) (refs bs) bs
  | [], _ => .nil
  | b :: bs, hp => .cons ⟨[], (hp b List.mem_cons_self).reads, by simp⟩ (each_reads bs fun c hc => hp c (List.mem_cons_of_mem _ hc))
theorem leP_trans (a b c : Int × Int) (h1 : leP a b = true) (h2 : leP b c = true) : leP a c = true := by
  unfold leP at *
  rw [decide_eq_true_eq] at *
  omega
theorem leP_total (a b : Int × Int) : (leP a b || leP b a) = true := by
  unfold leP
  rw [Bool.or_eq_true, decide_eq_true_eq, decide_eq_true_eq]
  omega
section
variable {prog : Program} {w : World} {A : Around} {E : Value → Shared → Prop} {s : Shared}
theorem sorted_any {src : Value} {bs : List AP} {Q : Value → Shared → Prop} (hu : A.units + 10 < cLine) (hp : ∀ b ∈ bs, PairAt s.heap b) (hl : bs.length ≤ 1000)
    (hcol : ∀ (Q' : List Value → Shared → Prop), (∀ s1 vs, (∀ b o, s.heap.get? b = some o → s1.heap.get? b = some o) → s1.gens = s.gens → s1.os = s.os → vs.Perm (refs bs) → Q' vs s1) → wpAny (model prog w) A.in1 (collect src) Q' E s)
    (h : ∀ s' p c (out : List AP), (∀ b o, s.heap.get? b = some o → s'.heap.get? b = some o) → s'.gens = s.gens → s'.os = s.os → s.heap.get? p = none → out.Perm bs → out.Pairwise (fun x y => leP x.2 y.2 = true) → s'.heap.get? p = some (seqObj "list" (refs out).toArray c) → Q (.ref p) s') :
    wpAny (model prog w) A (call (.builtin "sorted") [src]) Q E s := by
  refine Calls.call_function_entry kind_sorted plain_sorted entry_sorted (args_sorted1 _) ?_
  unfold Builtin.«sorted»
  refine wpAny_bind (m := checkCount "sorted" 1 1 _) (wpAny_pure ?_)
  refine wpAny_bind (hcol _ fun s1 vs k1 g1 o1 pm => ?_)
  obtain ⟨b1, e1, p1⟩ := perm_map pm bs rfl
  have e1' : vs = refs b1 := e1
  subst e1'
  have hb1 : b1.length = bs.length := p1.length_eq
  have hlen : (refs b1).length ≤ sizeLine := by unfold refs; rw [List.length_map, hb1, sizeLine_eq]; omega
  refine wpAny_bind (wpAny_newList ?_ hlen)
  have hoL : (s1.heap.push (seqObj "list" (refs b1).toArray 0)).get? s1.heap.objs.size = some (seqObj "list" (refs b1).toArray 0) := Heap.get?_push_size _ rfl
  have pa : ∀ b ∈ b1, PairAt (s1.heap.push (seqObj "list" (refs b1).toArray 0)) b := fun b hb => (hp b (p1.mem_iff.mp hb)).keep fun c u e => Heap.get?_push_of_some _ (k1 c u e)
  refine wpAny_bind (wpAny_holding (PySem.W.list_sort_data (s := { s1 with heap := s1.heap.push (seqObj "list" (refs b1).toArray 0) }) (enc := encP) (R := fun v b => v = .ref b.1) hoL (each_refs b1) (each_reads b1 pa) ?hal ?hk ?hL ?hu2 fun out ho eo => ?_))
  case hal =>
    intro d hd d' hd'
    obtain ⟨b, _, rfl⟩ := List.mem_map.mp hd
    obtain ⟨b', _, rfl⟩ := List.mem_map.mp hd'
    simp [encP, PySem.W.alike, PySem.W.alikeAll]
  case hk =>
    refine .inl fun d hd => ?_
    obtain ⟨b, _, rfl⟩ := List.mem_map.mp hd
    exact ⟨_, _, rfl⟩
  case hL => rw [hb1, sizeLine_eq]; omega
  case hu2 =>
    intro b _
    show A.units + 1 + 1 + (encP b).depth < cLine
    simp [encP, PyData.depth, PyData.depthAll]
    omega
  have eo' := refs_each eo
  subst eo'
  obtain ⟨c, hc⟩ := sortedHeap_at (vs := refs b1) (out := (refs (b1.mergeSort (PySem.W.dataLe false encP))).toArray) hoL
  have le : PySem.W.dataLe false encP = fun p q => leP p.2 q.2 := PySem.W.dataLe_ii (fun b : AP => b.2.1) (fun b => b.2.2)
  refine wpAny_pure ⟨_, rfl, h _ s1.heap.objs.size c (b1.mergeSort (PySem.W.dataLe false encP)) (fun b u e => ?_) g1 o1 ?_ ((List.mergeSort_perm _ _).trans p1) ?_ hc⟩
  · have q := k1 b u e
    have hlt := Heap.lt_size q
    show (sortedHeap (s1.heap.push (seqObj "list" (refs b1).toArray 0)) s1.heap.objs.size (refs b1) _).get? b = some u
    rw [sortedHeap_old (Nat.ne_of_lt hlt) (by rw [size_push']; exact Nat.lt_succ_of_lt hlt)]
    exact Heap.get?_push_of_some _ q
  · cases q : s.heap.get? s1.heap.objs.size with
    | none => rfl
    | some o => exact absurd (Heap.lt_size (k1 _ _ q)) (Nat.lt_irrefl _)
  · rw [le]
    exact List.pairwise_mergeSort (le := fun (p q : AP) => leP p.2 q.2) (fun a b c => leP_trans a.2 b.2 c.2) (fun a b => leP_total a.2 b.2) b1
end
def pairD (p : Int × Int) : D := .tup [.int p.1, .int p.2]
theorem RA.pairs {Mu : Addr → Prop} {H : Hp} : ∀ {vs : List V} {ps : List (Int × Int)}, RA Mu H vs (ps.map pairD) → ∃ bs : List AP, vs = refsV bs ∧ ps = bs.map (·.2) ∧ ∀ b ∈ bs, H b.1 = some (.tup [.int b.2.1, .int b.2.2])
  | _, [], .nil => ⟨[], rfl, rfl, fun _ h => nomatch h⟩
  | _, p :: ps, .cons r t => by
    obtain ⟨bs, e1, e2, h⟩ := RA.pairs (ps := ps) t
    cases r with
    | tup a1 a2 =>
      cases a2 with
      | cons b1 b2 =>
        cases b2 with
        | cons b2 b3 =>
          cases b1
          cases b2
          cases b3
          refine ⟨(_, p) :: bs, by rw [e1]; rfl, by rw [e2]; rfl, fun b hb => ?_⟩
          rcases List.mem_cons.mp hb with e | hb
          · rw [e]; exact a1
          · exact h b hb
theorem RA.ofPairs {Mu : Addr → Prop} {H : Hp} : ∀ {bs : List AP}, (∀ b ∈ bs, H b.1 = some (.tup [.int b.2.1, .int b.2.2])) → RA Mu H (refsV bs) ((bs.map (·.2)).map pairD)
  | [], _ => .nil
  | b :: bs, h => .cons (.tup (h b List.mem_cons_self) (.cons (.int _) (.cons (.int _) .nil))) (RA.ofPairs fun c hc => h c (List.mem_cons_of_mem _ hc))
section
variable {X : Cx} {H0 : Hp} {pos : Pos} {e : Expr} {te : DE}
theorem Inv.pairAt {pins : List (Addr × Obj)} {σ : L2.St} {H : Hp} {s : Shared} {b : AP} (I : Inv X pins σ H s) (h : H b.1 = some (.tup [.int b.2.1, .int b.2.2])) : PairAt s.heap b := by
  obtain ⟨its, r, ⟨o, ho, hc, n, hd⟩, _⟩ := I.tuple (.of h)
  cases r with
  | cons r1 r2 =>
    cases r2 with
    | cons r2 r3 =>
      cases r3
      obtain ⟨t, rfl⟩ := r1
      obtain ⟨u, rfl⟩ := r2
      exact ⟨o, t, u, n, ho, hc, hd⟩
theorem un_laid {fs ex : List Addr} {H : Hp} {h h' : Heap} {a : Addr} {o : HO} (k : ∀ b u, h.get? b = some u → h'.get? b = some u) (hp : h.get? a = none) (hn : H a = none) : Un fs ex H (upd H a o) h h' where
  keep := fun b u q _ _ _ => k b u q
  slot := fun b u q _ _ _ => ⟨u.slots, k b u q⟩
  free := fun b u q n _ => by
    rw [upd_ne (fun z => by rw [z, hp] at q; cases q)]
    exact n
  there := fun b u q _ => ⟨u, k b u q⟩
  tups := fun b xs q => by rw [upd_ne (ne_of_none q hn)]; exact q
  frzs := fun b u xs q => by rw [upd_ne (ne_of_none q hn)]; exact q
  tbls := fun b ps q => ⟨#[], by rw [upd_ne (ne_of_none q hn), q]; simp⟩
theorem hok_laid {P : Program} {w : World} {H : Hp} {h h' : Heap} {a : Addr} {o : HO} (x : HOk P w H h) (k : ∀ b u, h.get? b = some u → h'.get? b = some u) (hn : H a = none) (new : ObjOk P w (upd H a o) h' a o) : HOk P w (upd H a o) h' := fun b u e => by
  by_cases hb : b = a
  · subst hb
    rw [upd_same] at e
    cases e
    exact new
  · rw [upd_ne hb] at e
    exact (x b u e).stay (fun c v _ q => k c v q) (fun c q => by rw [upd_ne (ne_of_none q hn)]; exact q) fun c xs q => by rw [upd_ne (ne_of_none q hn)]; exact q
theorem ObjOk.there {P : Program} {w : World} {H : Hp} {h : Heap} {a : Addr} {o : HO} (x : ObjOk P w H h a o) : h.get? a ≠ none := by
  cases o with
  | lst xs => obtain ⟨_, _, _, _, e⟩ := x; rw [e]; exact fun z => nomatch z
  | tup xs => obtain ⟨_, _, _, _, e, _⟩ := x; rw [e]; exact fun z => nomatch z
  | dK kvs => obtain ⟨_, _, _, _, o, _, _, e, _⟩ := x; rw [e]; exact fun z => nomatch z
  | dT kvs => obtain ⟨_, _, _, _, o, _, _, e, _⟩ := x; rw [e]; exact fun z => nomatch z
  | set S n => obtain ⟨o, _, _, _, e, _⟩ := x; rw [e]; exact fun z => nomatch z
  | ins C dx fs => obtain ⟨_, _, _, e, _⟩ := x; rw [e]; exact fun z => nomatch z
  | own y => obtain ⟨_, e⟩ := x; rw [e]; exact fun z => nomatch z
  | xd fs => obtain ⟨_, ⟨_, _, _, e, _⟩, _⟩ := x; rw [e]; exact fun z => nomatch z
  | rng lo hi => obtain ⟨_, _, _, e⟩ := x; rw [e]; exact fun z => nomatch z
  | frz ob u => obtain ⟨e, _⟩ := x; rw [e]; exact fun z => nomatch z
  | tbl ps => rw [show h.get? a = some _ from x]; exact fun z => nomatch z
  | met f y => rw [show h.get? a = some _ from x]; exact fun z => nomatch z
  | ext φ => obtain ⟨_, ⟨_, e⟩, _⟩ := x; rw [e]; exact fun z => nomatch z
/-- behind sorted: the new list is tracked -/
theorem Inv.sortedOk {pins : List (Addr × Obj)} {σ : L2.St} {H : Hp} {s s' : Shared} {p : Addr} {c : Nat} {out : List AP} {Q : VK} (I : Inv X pins σ H s) (k : ∀ b o, s.heap.get? b = some o → s'.heap.get? b = some o) (g : s'.gens = s.gens) (o : s'.os = s.os) (hp : s.heap.get? p = none)
    (hl : out.length ≤ 1000) (hg : s'.heap.get? p = some (seqObj "list" (refs out).toArray c)) (q : H p = none → Q (.ref p) (upd H p (.lst (refsV out)))) : EP X pins σ Q (.ref p) s' := by
  have hlen : (refsV out).length ≤ sizeLine := by unfold refsV; rw [List.length_map, sizeLine_eq]; omega
  have hn : H p = none := by
    cases q : H p with
    | none => rfl
    | some o => exact absurd hp (Gf.ObjOk.there (I.hok p o q))
  have J : Inv X pins σ (upd H p (.lst (refsV out))) { s with heap := s'.heap, gens := s'.gens, drawn := s'.drawn, toks := s'.toks } :=
    I.call (ch := []) (un_laid k hp hn) (hok_laid I.hok k hn ⟨hlen, refs out, c, refs_vals out, hg⟩) (by rw [g]; exact I.bare) (fun _ z => nomatch z)
  have e : s' = { s with heap := s'.heap, gens := s'.gens, drawn := s'.drawn, toks := s'.toks } := by
    cases s'
    cases s
    cases o
    rfl
  rw [e]
  exact ⟨.ref p, _, J, rfl, q hn⟩
def dSorted : FD := fun ds K => match ds with
  | [x] => (match seqOf x with | some xs => ∃ ps : List (Int × Int), xs = ps.map pairD ∧ ps.length ≤ 1000 ∧ ∀ qs : List (Int × Int), qs.Perm ps → qs.Pairwise (fun x y => leP x y = true) → K (.lst (qs.map pairD)) | none => False)
  | _ => False
theorem cd_sorted (hc : X.calm = true) (hu : X.A.units + 64 < cLine) : CallD τ X (.builtin "sorted") dSorted := by
  intro Mu pins s σ H xs us Q I r h
  obtain ⟨ds, K, mu, ra, h, q⟩ := h
  unfold dSorted at h
  split at h
  · split at h
    · rename_i xs e
      obtain ⟨ps, rfl, hl, h⟩ := h
      cases ra with
      | cons r1 r2 =>
        cases r2
        obtain ⟨a, k, vs, rfl, hq, rv, _⟩ := R.seq (τ := τ) (K := X.K) r1 e
        obtain ⟨bs, rfl, rfl, hb⟩ := rv.pairs
        have hl' : bs.length ≤ 1000 := by simpa using hl
        rw [Vals.ref1 r]
        refine sorted_any (bs := bs) (by omega) (fun b m => Inv.pairAt I (hb b m)) hl' (fun Q' hQ => ?_) fun s' p c out k g o hp pm pw hg => ?_
        · have fin : ∀ (o : Obj) (its : List Value) (n : Nat) (T : String), (T = "list" ∨ T = "tuple") → s.heap.get? a = some o → o.cls = .type T → o.data = .seq its.toArray n → Vals (refsV bs) its → wpAny (model X.prog X.w) X.A.in1 (collect (.ref a)) Q' X.xe s := fun o its n T hT ho hcl hd rv' => by
            have hlen := rv'.length
            unfold refsV at hlen
            rw [List.length_map] at hlen
            refine wpAny_collect_seq a hT ho hcl hd (fun h' hk => hQ _ _ hk rfl rfl ?_) (by rw [List.size_toArray, sizeLine_eq]; omega)
            rw [vals_refs rv']
          cases k with
          | true =>
            obtain ⟨its, rv', ⟨o, n, ho, hcl, _, hd⟩, _⟩ := I.list hq
            exact fin o its n "list" (.inl rfl) ho hcl hd rv'
          | false =>
            obtain ⟨its, rv', ⟨o, ho, hcl, n, hd⟩, _⟩ := I.tuple hq
            exact fin o its n "tuple" (.inr rfl) ho hcl hd rv'
        · exact Inv.sortedOk I k g o hp (by rw [pm.length_eq]; exact hl') hg fun hn => q _ (h (out.map (·.2)) (pm.map _) (List.pairwise_map.mpr pw)) _ _ (same_new (τ := τ) hn) (.lst upd_same (mu.fresh hn) (RA.ofPairs fun b m => by rw [upd_ne (ne_of_none (hb b (pm.mem_iff.mp m)) hn)]; exact hb b (pm.mem_iff.mp m)))
    · exact h.elim
  · exact h.elim
/-! ### sorted(set(..)) -/
def setL (bs : List AP) : List (Addr × List Int) := bs.map fun b => (b.1, [b.2.1, b.2.2])
/-- set(xs) of a list or tuple of pairs -/
def rSetP (P : Program) (w : World) : List V → Hp → VK → Prop := fun xs H Q => ∃ (l : Addr) (bs : List AP), xs = [V.ref l] ∧ (H l = some (.lst (refsV bs)) ∨ H l = some (.tup (refsV bs))) ∧ (∀ b ∈ bs, H b.1 = some (.tup [.int b.2.1, .int b.2.2])) ∧ bs.length < 64 ∧
  ∀ a (cs : List AP), H a = none → (∀ c ∈ cs, c ∈ bs) → (∀ b ∈ bs, b.2 ∈ cs.map (·.2)) → cs.length ≤ bs.length → Q (.ref a) (upd H a (SetTO P w a (setL cs)))
theorem setL_sub {bs : List AP} : ∀ {L : List (Addr × List Int)}, (∀ p ∈ L, p ∈ setL bs) → ∃ cs : List AP, L = setL cs ∧ ∀ c ∈ cs, c ∈ bs
  | [], _ => ⟨[], rfl, fun _ h => nomatch h⟩
  | p :: L, h => by
    obtain ⟨cs, e, hs⟩ := setL_sub (L := L) fun q hq => h q (List.mem_cons_of_mem _ hq)
    obtain ⟨b, hb, eb⟩ := List.mem_map.mp (h p List.mem_cons_self)
    refine ⟨b :: cs, by rw [e, ← eb]; rfl, fun c hc => ?_⟩
    rcases List.mem_cons.mp hc with z | z
    · rw [z]; exact hb
    · exact hs c z
theorem setL_all {bs cs : List AP} (h : ∀ p ∈ setL bs, p.2 ∈ (setL cs).map (·.2)) : ∀ b ∈ bs, b.2 ∈ cs.map (·.2) := fun b hb => by
  have q := h _ (List.mem_map.mpr ⟨b, hb, rfl⟩)
  unfold setL at q
  rw [List.map_map] at q
  obtain ⟨c, hc, e⟩ := List.mem_map.mp q
  have e' : [c.2.1, c.2.2] = [b.2.1, b.2.2] := e
  refine List.mem_map.mpr ⟨c, hc, ?_⟩
  injection e' with e1 e2
  injection e2 with e2 _
  exact Prod.ext e1 e2
theorem cr_setP (hc : X.calm = true) (hu : X.A.units + 64 < cLine) : CallR X (.type "set") (rSetP X.prog X.w) := by
  intro pins s σ H xs us Q I r h
  obtain ⟨l, bs, rfl, hl, hk, hf, q⟩ := h
  rw [Vals.ref1 r]
  have hn : H s.heap.objs.size = none := I.hok.fresh (Nat.le_refl _)
  have isT : ∀ p ∈ setL bs, IsT X.prog X.w s.heap p.2 p.1 := fun p hp => by
    obtain ⟨b, hb, e⟩ := List.mem_map.mp hp
    rw [← e]
    exact I.isT (k := [b.2.1, b.2.2]) (.of (hk b hb))
  have fin : ∀ (h' : Heap) (tk : Nat) L es ep t, SetTR X.prog X.w h' s.heap.objs.size L es ep t → Got (setL bs) (setL bs).length L → (∀ b o, s.heap.get? b = some o → h'.get? b = some o) → EP X pins σ Q (.ref s.heap.objs.size) { s with heap := h', toks := tk } := fun h' tk L es ep t R g k => by
    obtain ⟨cs, e, hs⟩ := setL_sub fun p hp => List.mem_of_mem_take (g.sub p hp)
    subst e
    refine ⟨.ref s.heap.objs.size, upd H s.heap.objs.size (SetTO X.prog X.w s.heap.objs.size (setL cs)), I.laid (t' := tk) k (Nat.le_refl _) (setTO_new R.t0), rfl, q _ cs hn hs (setL_all fun p hp => g.all p (by rw [List.take_length]; exact hp)) (by have := g.len; unfold setL at this; simp only [List.length_map] at this; exact this)⟩
  have hm : (setL bs).length < 64 := by unfold setL; rw [List.length_map]; exact hf
  have er : refs bs = (setL bs).map fun p => Value.ref p.1 := by unfold refs setL; rw [List.map_map]; rfl
  rcases hl with hl | hl
  · obtain ⟨its, rv, pl, hz⟩ := I.list (.of hl)
    exact call_set_tups (P := X.prog) (w := X.w) (setL bs) (I.ok.hd hc) pl.isList (by rw [vals_refs rv, List.toList_toArray, er]) isT hm (by omega) fin
  · obtain ⟨its, rv, pl, hz⟩ := I.tuple (.of hl)
    exact set_of_tuple (prog := X.prog) (w := X.w) (setL bs) (I.ok.hd hc) (show s.heap.IsTuple l its.toArray from pl) (by rw [vals_refs rv, List.toList_toArray, er]) isT hm (by omega) fin
def rSortedSP (P : Program) (w : World) : List V → Hp → VK → Prop := fun vs H Q => ∃ (a : Addr) (cs : List AP), vs = [V.ref a] ∧ H a = some (SetTO P w a (setL cs)) ∧ (∀ b ∈ cs, H b.1 = some (.tup [.int b.2.1, .int b.2.2])) ∧ cs.length < 64 ∧
  ∀ (out : List AP) (p : Addr), out.Perm cs → (out.map (·.2)).Nodup → out.Pairwise (fun x y => leP x.2 y.2 = true) → H p = none → Q (.ref p) (upd H p (.lst (refsV out)))
theorem nodup_setL {cs : List AP} (h : ((setL cs).map (·.2)).Nodup) : (cs.map (·.2)).Nodup := by
  unfold setL at h
  rw [List.map_map] at h
  have e : (Prod.snd ∘ fun b : AP => (b.1, [b.2.1, b.2.2])) = (fun p : Int × Int => [p.1, p.2]) ∘ fun b : AP => b.2 := rfl
  rw [e, ← List.map_map] at h
  exact nodup_of_map h
theorem cr_sortedSP (hc : X.calm = true) (hu : X.A.units + 64 < cLine) : CallR X (.builtin "sorted") (rSortedSP X.prog X.w) := by
  intro pins s σ H vs us Q I r h
  obtain ⟨a, cs, rfl, ha, hk, hl, q⟩ := h
  have R0 : SetT0 X.prog X.w s.heap a (setL cs) := (I.hok a _ ha).1
  have isT : ∀ p ∈ setL cs, IsT X.prog X.w s.heap p.2 p.1 := fun p hp => by
    obtain ⟨b, hb, e⟩ := List.mem_map.mp hp
    rw [← e]
    exact I.isT (k := [b.2.1, b.2.2]) (.of (hk b hb))
  obtain ⟨es, ep, t, R⟩ := R0.full isT
  rw [Vals.ref1 r]
  have nd := nodup_setL R.nd
  refine sorted_any (bs := cs) (by omega) (fun b m => Inv.pairAt I (hk b m)) (by omega) (fun Q' hQ => ?_) fun s' p c out k g o hp pm pw hg => ?_
  · obtain ⟨o, ho, hex, hd⟩ := R.ob
    have hsz := R.size
    have hfew := R.few
    refine collect_set (A := X.A.in1) (by show X.A.handled = none; exact I.ok.hd hc) ⟨o, ho, hex.1, hd⟩ R.fits (by unfold scanBound; omega) R.tab.ris R.led fun s1 vs k1 hz g1 o1 pm => ?_
    have hes : es.toList.map (·.2) = refs cs := by
      rw [R.rows]
      unfold rowsOf setL refs
      rw [List.map_map, List.map_map]
      rfl
    rw [hes] at pm
    exact hQ s1 vs k1 g1 o1 pm
  · exact Inv.sortedOk I k g o hp (by rw [pm.length_eq]; omega) hg fun hn => q out p pm ((pm.map (·.2)).nodup_iff.mpr nd) pw hn
/-- sorted(set(xs)): strictly rising, the same members -/
def dSortedSet : O1 := fun x K => match seqOf x with
  | some xs => ∃ ps : List (Int × Int), xs = ps.map pairD ∧ ps.length < 64 ∧ ∀ qs : List (Int × Int), qs.Pairwise (fun x y => leP x y = true ∧ x ≠ y) → (∀ p, p ∈ qs ↔ p ∈ ps) → K (.lst (qs.map pairD))
  | none => False
theorem pd_sortedSet {p p2 q : Pos} (hg : Gl X "sorted") (hm : X.mg "sorted" = none) (hg2 : Gl X "set") (hm2 : X.mg "set" = none) (ha : PD τ X H0 e te) (hc : X.calm = true) (hu : X.A.units + 64 < cLine)
    (he : starEach (e :: []) X.env = (false, eval e X.env) :: starEach [] X.env := by rfl) (he2 : starEach (Expr.Call (.Name "set" p2) [e] [] q :: []) X.env = (false, eval (Expr.Call (.Name "set" p2) [e] [] q) X.env) :: starEach [] X.env := by rfl)
    (hp1 : (backTo q (starEach [] X.env)).any (·.1) = false := by rfl) (hp2 : (backTo pos (starEach [] X.env)).any (·.1) = false := by rfl) :
    PD τ X H0 (.Call (.Name "sorted" p) [.Call (.Name "set" p2) [e] [] q] [] pos) (dUn dSortedSet te) := by
  refine ⟨fun Mu => PE.imp (pe_callB (cr_sortedSP hc hu) hg hm b_sorted (pa_cons (pe_callTy (cr_setP hc hu) hg2 hm2 b_set (pa_cons (ha.pe Mu) pa_nil he) (by decide) (by decide) he hp1) pa_nil he2) (by decide) (by decide) he2 hp2) fun σ H Q ⟨δ, K, ee, h, qq⟩ => ?_⟩
  refine ⟨δ, _, ee, h, fun d1 h1 v1 H1 s1 r1 => ?_⟩
  unfold dSortedSet at h1
  split at h1
  · rename_i xs ex
    obtain ⟨ps, rfl, hl, h1⟩ := h1
    obtain ⟨a, bs, rfl, rfl, hsrc, hb⟩ : ∃ (a : Addr) (bs : List AP), v1 = V.ref a ∧ ps = bs.map (·.2) ∧ (H1 a = some (.lst (refsV bs)) ∨ H1 a = some (.tup (refsV bs))) ∧ ∀ b ∈ bs, H1 b.1 = some (.tup [.int b.2.1, .int b.2.2]) := by
      cases r1 with
      | tup a1 a2 =>
        cases ex
        obtain ⟨bs, e1, e2, hb⟩ := a2.pairs
        subst e1
        exact ⟨_, bs, rfl, e2, .inr a1, hb⟩
      | lst a1 a3 a2 =>
        cases ex
        obtain ⟨bs, e1, e2, hb⟩ := a2.pairs
        subst e1
        exact ⟨_, bs, rfl, e2, .inl a1, hb⟩
      | _ => cases ex
    have hl' : bs.length < 64 := by simpa using hl
    refine ⟨a, bs, rfl, hsrc, hb, hl', fun D cs hD hs hall hlen => ?_⟩
    have cb : ∀ b ∈ cs, upd H1 D (SetTO X.prog X.w D (setL cs)) b.1 = some (.tup [.int b.2.1, .int b.2.2]) := fun b hb' => by
      have z := hb b (hs b hb')
      rw [upd_ne (ne_of_none z hD)]
      exact z
    refine ⟨D, cs, rfl, upd_same, cb, Nat.lt_of_le_of_lt hlen hl', fun out p pm nd pw hp => ?_⟩
    have s3 : Same τ (upd H1 D (SetTO X.prog X.w D (setL cs))) (upd (upd H1 D (SetTO X.prog X.w D (setL cs))) p (.lst (refsV out))) := same_new (τ := τ) hp
    have s2 : Same τ H1 (upd H1 D (SetTO X.prog X.w D (setL cs))) := same_new (τ := τ) hD
    refine qq _ (h1 (out.map (·.2)) ?_ ?_) _ _ (s1.trans (s2.trans s3)) (.lst upd_same (((ee.mu.same s1).same s2).fresh hp) (RA.ofPairs fun b m => s3 _ _ (cb b (pm.mem_iff.mp m))))
    · refine List.pairwise_map.mpr ?_
      have nd' := List.pairwise_map.mp nd
      exact (pw.and nd')
    · intro p'
      constructor
      · intro h
        obtain ⟨b, hb', e⟩ := List.mem_map.mp h
        exact List.mem_map.mpr ⟨b, hs b (pm.mem_iff.mp hb'), e⟩
      · intro h
        obtain ⟨b, hb', e⟩ := List.mem_map.mp h
        obtain ⟨c, hc', e'⟩ := List.mem_map.mp (hall b hb')
        exact List.mem_map.mpr ⟨c, pm.mem_iff.mpr hc', by rw [e', e]⟩
  · exact h1.elim
end
end Gf
namespace Gf
open PySem PySem.Spec PyProof.Rows L2
variable {τ : Tbs}
section
variable {X : Cx} {H0 : Hp} {pos : Pos} {e : Expr} {te : DE}
/-! ### x in xs -/
def inD (x : D) (xs : List D) : Bool := (toPys xs).any fun z => PyData.eqv z (toPy x)
def dIn : O2 := fun x y K => match seqOf y with | some xs => cmpb x ∧ flats xs = true ∧ K (.bl (inD x xs)) | none => False
def dNotIn : O2 := fun x y K => match seqOf y with | some xs => cmpb x ∧ flats xs = true ∧ K (.bl (!inD x xs)) | none => False
theorem room_cmp {A : Around} {x : D} {ys : List PyData} (h : cmpb x) (hu : A.units + 64 < cLine) : A.units + 1 + min (PyData.depthAll ys) (toPy x).depth < cLine := by
  have := h.2
  rw [depth_of x h.1]
  omega
theorem od_in (hu : X.A.units + 64 < cLine) : OpD τ X (compareOp .In) dIn := by
  intro Mu pins s σ H x y v u Q I rx ry h
  obtain ⟨dx, dy, K, mu, r1, r2, h, q⟩ := h
  unfold dIn at h
  split at h
  · rename_i xs ex
    obtain ⟨c, fl, h⟩ := h
    obtain ⟨as, p1⟩ := Dp.reads I (toPy dx) x v (R.dp dx x c.1 r1) rx
    cases dy with
    | tup ys =>
      cases ex
      obtain ⟨bs, p2⟩ := Dp.reads I (toPy (.tup xs)) y u (R.dp (.tup xs) y (by rw [flat]; exact fl) r2) ry
      rw [toPy] at p2
      exact SeqAt.in_tuple_reads p2 p1 (canLays_of xs fl) (canLay_of dx c.1) (room_cmp c hu) ⟨.bl _, H, I, rfl, q _ h _ H (Same.refl H) (.bl _)⟩
    | lst ys =>
      cases ex
      obtain ⟨bs, p2⟩ := Dp.reads I (toPy (.lst xs)) y u (R.dp (.lst xs) y (by rw [flat]; exact fl) r2) ry
      rw [toPy] at p2
      exact SeqAt.in_list_reads p2 p1 (canLays_of xs fl) (canLay_of dx c.1) (room_cmp c hu) ⟨.bl _, H, I, rfl, q _ h _ H (Same.refl H) (.bl _)⟩
    | _ => cases ex
  · exact h.elim
theorem od_notIn (hu : X.A.units + 64 < cLine) : OpD τ X (compareOp .NotIn) dNotIn := by
  intro Mu pins s σ H x y v u Q I rx ry h
  obtain ⟨dx, dy, K, mu, r1, r2, h, q⟩ := h
  unfold dNotIn at h
  split at h
  · rename_i xs ex
    obtain ⟨c, fl, h⟩ := h
    obtain ⟨as, p1⟩ := Dp.reads I (toPy dx) x v (R.dp dx x c.1 r1) rx
    cases dy with
    | tup ys =>
      cases ex
      obtain ⟨bs, p2⟩ := Dp.reads I (toPy (.tup xs)) y u (R.dp (.tup xs) y (by rw [flat]; exact fl) r2) ry
      rw [toPy] at p2
      exact SeqAt.notIn_tuple_reads p2 p1 (canLays_of xs fl) (canLay_of dx c.1) (room_cmp c hu) ⟨.bl _, H, I, rfl, q _ h _ H (Same.refl H) (.bl _)⟩
    | lst ys =>
      cases ex
      obtain ⟨bs, p2⟩ := Dp.reads I (toPy (.lst xs)) y u (R.dp (.lst xs) y (by rw [flat]; exact fl) r2) ry
      rw [toPy] at p2
      exact SeqAt.notIn_list_reads p2 p1 (canLays_of xs fl) (canLay_of dx c.1) (room_cmp c hu) ⟨.bl _, H, I, rfl, q _ h _ H (Same.refl H) (.bl _)⟩
    | _ => cases ex
  · exact h.elim
/-! ### min of a list of pairs -/
theorem each_readsAll {h : Heap} : ∀ bs : List AP, (∀ b ∈ bs, PairAt h b) → ∃ as, ReadsAll h (refs bs) (bs.map encP) as
  | [], _ => ⟨[], .nil⟩
  | b :: bs, hp => by
    obtain ⟨as, r⟩ := each_readsAll bs fun c hc => hp c (List.mem_cons_of_mem _ hc)
    exact ⟨_, .cons (hp b List.mem_cons_self).reads r⟩
def ltP (p q : Int × Int) : Bool := decide (p.1 < q.1 ∨ (p.1 = q.1 ∧ p.2 < q.2))
def minP : Int × Int → List (Int × Int) → Int × Int := fun p ps => ps.foldl (fun a y => if ltP y a then y else a) p
theorem minD_pairs (p : AP) : ∀ ps : List AP, PySem.W.minD (encP p) (ps.map encP) = encP (0, minP p.2 (ps.map (·.2))) := by
  intro ps
  unfold PySem.W.minD minP
  induction ps generalizing p with
  | nil => rfl
  | cons q r ih =>
    rw [List.map_cons, List.map_cons, List.foldl_cons, List.foldl_cons]
    have e : PySem.W.dataLt (encP q) (encP p) = ltP q.2 p.2 := by
      unfold encP ltP
      rw [PySem.W.dataLt_ii]
    rw [e]
    by_cases h : ltP q.2 p.2 = true
    · rw [if_pos h, if_pos h]; exact ih q
    · rw [if_neg h, if_neg h]; exact ih p
theorem minP_mem (p : Int × Int) : ∀ ps, minP p ps ∈ p :: ps := by
  intro ps
  unfold minP
  induction ps generalizing p with
  | nil => simp
  | cons q r ih =>
    rw [List.foldl_cons]
    by_cases h : ltP q p = true
    · rw [if_pos h]; exact List.mem_cons_of_mem _ (ih q)
    · rw [if_neg h]
      rcases List.mem_cons.mp (ih p) with z | z
      · rw [z]; exact List.mem_cons_self
      · exact List.mem_cons_of_mem _ (List.mem_cons_of_mem _ z)
theorem minP_le (p : Int × Int) : ∀ ps, ∀ y ∈ p :: ps, leP (minP p ps) y = true := by
  intro ps
  unfold minP
  induction ps generalizing p with
  | nil => intro y hy; rw [List.mem_singleton.mp hy]; unfold leP; simp
  | cons q r ih =>
    intro y hy
    rw [List.foldl_cons]
    have pick : leP (if ltP q p = true then q else p) p = true ∧ leP (if ltP q p = true then q else p) q = true := by
      unfold ltP leP
      by_cases h : q.1 < p.1 ∨ (q.1 = p.1 ∧ q.2 < p.2)
      · rw [if_pos (decide_eq_true h)]
        exact ⟨decide_eq_true (by omega), decide_eq_true (by omega)⟩
      · rw [if_neg (by rw [decide_eq_true_eq]; exact h)]
        exact ⟨decide_eq_true (by omega), decide_eq_true (by omega)⟩
    have h0 := ih (if ltP q p = true then q else p) _ List.mem_cons_self
    rcases List.mem_cons.mp hy with rfl | hy
    · exact leP_trans _ _ _ h0 pick.1
    · rcases List.mem_cons.mp hy with rfl | hy
      · exact leP_trans _ _ _ h0 pick.2
      · exact ih _ y (List.mem_cons_of_mem _ hy)
theorem readAt {h : Heap} {b : AP} {q : Int × Int} {as : List Addr} (p : PairAt h b) (r : Reads h (.ref b.1) (encP (0, q)) as) : b.2 = q := by
  obtain ⟨o, t, u, n, a, c, d⟩ := p
  obtain ⟨b, x, y⟩ := b
  obtain ⟨q1, q2⟩ := q
  unfold encP at r
  simp only at *
  cases r with
  | tuple h1 h2 h3 h4 =>
    rw [a] at h1
    cases h1
    rw [d] at h3
    cases h3
    cases h4 with
    | cons x1 x2 =>
      cases x2 with
      | cons x2 x3 =>
        cases x1
        cases x2
        rfl
def dMinP : FD := fun ds K => match ds with
  | [.lst xs] => ∃ ps : List (Int × Int), xs = ps.map pairD ∧ 0 < ps.length ∧ ∀ m, m ∈ ps → (∀ y, y ∈ ps → leP m y = true) → K (pairD m)
  | _ => False
theorem cd_minP (hc : X.calm = true) (hu : X.A.units + 64 < cLine) : CallD τ X (.builtin "min") dMinP := by
  intro Mu pins s σ H xs us Q I r h
  obtain ⟨ds, K, mu, ra, h, q⟩ := h
  unfold dMinP at h
  split at h
  · obtain ⟨ps, rfl, hl, h⟩ := h
    cases ra with
    | cons r1 r2 =>
      cases r2
      cases r1 with
      | lst a1 a3 a2 =>
        obtain ⟨bs, e1, e2, hb⟩ := a2.pairs
        subst e1 e2
        rw [Vals.ref1 r]
        obtain ⟨its, rv, pl, hz⟩ := I.list (.of a1)
        have ei := vals_refs rv
        subst ei
        cases bs with
        | nil => simp at hl
        | cons b bs =>
          have pa : ∀ c ∈ b :: bs, PairAt s.heap c := fun c hc' => Inv.pairAt I (hb c hc')
          obtain ⟨as, ra⟩ := each_readsAll (b :: bs) pa
          have dep : ∀ l : List AP, PyData.depthAll (l.map encP) ≤ 1 := by
            intro l
            induction l with
            | nil => simp [PyData.depthAll]
            | cons c l ih => simp only [List.map_cons, PyData.depthAll, encP, PyData.depth]; omega
          refine PySem.W.min_list_data (I.ok.hd hc) pl.isList (x := encP b) (xs := bs.map encP) (as := as) (by simpa using ra) ?_ ?_ fun i v h' tk bs' hi rr hk => ?_
          · refine ⟨fun d hd d' hd' => ?_, fun d hd => ?_⟩
            · rw [← List.map_cons] at hd hd'
              obtain ⟨b, _, rfl⟩ := List.mem_map.mp hd
              obtain ⟨b', _, rfl⟩ := List.mem_map.mp hd'
              simp [encP, PySem.W.alike, PySem.W.alikeAll]
            · rw [← List.map_cons] at hd
              obtain ⟨b, _, rfl⟩ := List.mem_map.mp hd
              exact fun z => nomatch z
          · have := dep (b :: bs)
            rw [List.map_cons] at this
            omega
          · have hi' : (refs (b :: bs))[i]? = some v := by simpa using hi
            unfold refs at hi'
            rw [List.getElem?_map] at hi'
            cases hg : (b :: bs)[i]? with
            | none => rw [hg] at hi'; cases hi'
            | some c =>
              rw [hg] at hi'
              cases hi'
              have hm : c ∈ b :: bs := List.mem_of_getElem? hg
              rw [minD_pairs] at rr
              have ec : c.2 = minP b.2 (bs.map (·.2)) := readAt ((pa c hm).keep hk) rr
              refine ⟨.ref c.1, H, I.kept hk, rfl, q _ (h c.2 (List.mem_map.mpr ⟨c, hm, rfl⟩) fun y hy => ?_) _ H (Same.refl H) (.tup (hb c hm) (.cons (.int _) (.cons (.int _) .nil)))⟩
              rw [ec]
              exact minP_le _ _ y hy
  · exact h.elim
/-! ### enumerate of a list or a tuple -/
def ItE2 (K : PySem.W.Frag) (k : Bool) (a : Addr) : It :=
  ⟨fun i H => ∃ xs : List V, SqX K k H a xs ∧ i < xs.length, fun i H v H' => ∃ T x, v = .ref T ∧ H T = none ∧ H' = upd H T (.tup [.int (i : Nat), x]) ∧ ∀ xs, SqX K k H a xs → xs[i]? = some x, fun i H => ∃ xs : List V, SqX K k H a xs ∧ i = xs.length⟩
theorem IsEnum.lt {h : Heap} {e it : Addr} {c : Int} {old : Value} (x : IsEnum h e it c old) : e < h.objs.size := Heap.lt_size x
theorem turn_enumX {P : Program} {w : World} {K : PySem.W.Frag} {elts : List Expr} {kk : Nat} {tpos : Pos} {a z i1 : Addr} (k : Bool) (zi : z ≠ i1) (za : z ≠ a) (ai : a ≠ i1) :
    Turn P w K (.Tuple elts kk tpos) (ItE2 K k a) [z, i1] z (fun i h => (∃ old, IsEnum h z i1 (0 + (i : Int)) old) ∧ IterX k h i1 a i) where
  mem := by simp
  obj := fun i h st c hc => by
    obtain ⟨⟨old, hz⟩, h1⟩ := st
    have e' : c = z ∨ c = i1 := by simpa using hc
    rcases e' with q | q
    · rw [q]; exact ⟨_, hz, fun v q => nomatch q⟩
    · rw [q]; exact h1.obj
  keep := fun i h h' st k' => by
    obtain ⟨⟨old, hz⟩, h1⟩ := st
    exact ⟨⟨old, k' z (by simp) _ hz⟩, h1.at fun o q => k' i1 (by simp) o q⟩
  item := by
    intro X hP hw hK hc i pins s σ H E I hf st hg
    subst hP hw hK
    obtain ⟨⟨old, hz⟩, h1⟩ := st
    obtain ⟨xs, hqx, hi⟩ := hg
    obtain ⟨its, rv, p, _⟩ := Inv.seqX I hqx
    have l1 := rv.length
    have G := GoesN.enumFrom (prog := X.prog) (w := X.w) (A := X.A) (elts := elts) (x1 := kk) (pos := tpos) 0 (drawsX (A := X.A.in1) (by show X.A.handled = none; exact I.ok.hd hc) k i1 a ai its.toArray) z zi (by simp [zi, za]) (by simp)
    have lt2 : ∀ c ∈ [z, i1], c < s.heap.objs.size := fun c hc => by
      have e' : c = z ∨ c = i1 := by simpa using hc
      rcases e' with q | q
      · rw [q]; exact Heap.lt_size hz
      · rw [q]; obtain ⟨_, e1, _⟩ := h1.obj; exact Heap.lt_size e1
    refine thn (G.goes i s (fun u s2 => ∃ x H', Inv X pins σ H' s2 ∧ RelV x u ∧ (ItE2 X.K k a).yld i H x H' ∧ ((∃ old, IsEnum s2.heap z i1 (0 + ((i + 1 : Nat) : Int)) old) ∧ IterX k s2.heap i1 a (i + 1)) ∧ ∀ c ∈ [z, i1], H' c = none) E (by simpa [← l1] using hi) ⟨⟨old, hz⟩, h1, p⟩ fun v h' tk hY st' hk htk => ?_) fun r s1 q => q
    obtain ⟨T, t, u, ev, hT, hu, hIs⟩ := hY
    subst ev
    obtain ⟨z', h1', _⟩ := st'
    obtain ⟨x, hx, ru⟩ := vals_at rv hu
    have e0 : (0 + (i : Int)) = ((i : Nat) : Int) := by omega
    rw [e0] at hIs
    have new : ObjOk X.prog X.w (upd H T (.tup [.int (i : Nat), x])) h' T (.tup [.int (i : Nat), x]) := ⟨by show 2 ≤ sizeLine; decide, [.int i t, u], .cons ⟨_, rfl⟩ (.cons ru .nil), hIs⟩
    refine ⟨.ref T, _, Inv.turnedNew (t' := tk) (ch := [z, i1]) I hk hf hT new, rfl, ⟨T, x, rfl, I.hok.fresh hT, rfl, fun l hl => by rw [Inv.seqX_inj I hl hqx]; exact hx⟩, ⟨z', h1'⟩, fun c hcm => ?_⟩
    rw [upd_ne (Nat.ne_of_lt (Nat.lt_of_lt_of_le (lt2 c hcm) hT))]
    exact (hf c hcm).1
  done := by
    intro X hP hw hK hc i pins s σ H E I hf st hg
    subst hP hw hK
    obtain ⟨⟨old, hz⟩, h1⟩ := st
    obtain ⟨xs, hqx, hi⟩ := hg
    obtain ⟨its, rv, p, _⟩ := Inv.seqX I hqx
    have l1 := rv.length
    have G := GoesN.enumFrom (prog := X.prog) (w := X.w) (A := X.A) (elts := elts) (x1 := kk) (pos := tpos) 0 (drawsX (A := X.A.in1) (by show X.A.handled = none; exact I.ok.hd hc) k i1 a ai its.toArray) z zi (by simp [zi, za]) (by simp)
    have ei : i = its.toArray.size := by rw [hi, l1]; simp
    rw [ei] at h1 hz
    exact thn (G.stops s (fun s1 => Inv X pins σ H s1) E ⟨⟨old, hz⟩, h1, p⟩ fun h' tk hk htk => Inv.turnedL (t' := tk) (ch := [z, i1]) I hk fun b hb => hf b hb) fun r s1 q => q
  self := fun A i s Q E st h => let ⟨⟨_, he⟩, _⟩ := st; wpAny_pyIter_enum he h
theorem meets_enumerate_new1 {v : Value} {o : Obj} {H : Heap → Prop} (B : Begins v o H) :
    Meets (Builtin.«enumerate.__new__» ⟨[.type "enumerate", v], []⟩) (fun _ R s => H s.heap ∧
      R (.ok (.ret (.ref (s.heap.push o).objs.size))) { s with heap := (s.heap.push o).push { cls := .type "enumerate", data := .fields #[.none, .bool false, .ref s.heap.objs.size, rawInt 0, .none, .none] } }) :=
  .of_wp fun prog w A R s h => by
    obtain ⟨hp, g, d, tk, os⟩ := s; obtain ⟨h1, h⟩ := h
    have hsub := sub_enumerate
    have q1 : ∀ {A' : Around} {E : Value → Shared → Prop} {Q : Value → Shared → Prop}, Q (.ref hp.objs.size) ⟨hp.push o, g, d, tk, os⟩ → wpAny (model prog w) A' (pyIter v) Q E ⟨hp, g, d, tk, os⟩ :=
      fun q => B.iter prog w _ _ ⟨hp, g, d, tk, os⟩ _ h1 q
    wp_walk using q1
    refine wpAny_stack_any fun st => wpAny_pure ?_
    split
    · rename_i c _ _ _ _ _
      cases (c == Value.type "enumerate")
      · wp_walk using q1
        exact ⟨_, rfl, h⟩
      · wp_walk using q1
        exact ⟨_, rfl, h⟩
    · wp_walk using q1
      exact ⟨_, rfl, h⟩
theorem call_enumX {prog : Program} {w : World} {A : Around} {E : Value → Shared → Prop} {s : Shared} {l : Addr} (k : Bool) {items : Array Value} {Q : Value → Shared → Prop} (hL : HoldX k s.heap l items)
    (h : ∀ h', IsEnum h' (s.heap.objs.size + 1) s.heap.objs.size 0 .none → IterX k h' s.heap.objs.size l 0 →
      (∀ b o, s.heap.get? b = some o → h'.get? b = some o) → Q (.ref (s.heap.objs.size + 1)) { s with heap := h' }) :
    wpAny (model prog w) A (call (.type "enumerate") [.ref l]) Q E s := by
  refine callType_new F.called_enumerate (by decide) (F.typeCall_enumerate_1 _) (F.newCall_enumerate_1 _) (fun obj => F.args_object_init_2 obj _) F.entry_enumerate_new
    (meets_enumerate_new1 (beginsX k l items)) ⟨hL, ?_⟩
  have hz : (s.heap.push (oX k l)).objs.size = s.heap.objs.size + 1 := Heap.size_push ..
  show _ ∧ _
  rw [hz]
  have he : IsEnum ((s.heap.push (oX k l)).push { cls := .type "enumerate", data := .fields #[.none, .bool false, .ref s.heap.objs.size, rawInt 0, .none, .none] }) (s.heap.objs.size + 1) s.heap.objs.size 0 .none := by
    have := Heap.get?_push_size (s.heap.push (oX k l)) (o := { cls := .type "enumerate", data := .fields #[.none, .bool false, .ref s.heap.objs.size, rawInt 0, .none, .none] }) rfl
    rw [hz] at this; exact this
  exact ⟨⟨_, he, rfl⟩, h _ he (IterX.start (Heap.get?_push_of_some _ (Heap.get?_push_size _ (beginsX k l items).free))) fun b o x => Heap.get?_push_of_some _ (Heap.get?_push_of_some _ x)⟩
variable {elts : List Expr}
def iEnumX (K : PySem.W.Frag) (ta : TA) : TI := fun σ H R => ta σ H fun vs H1 => ∃ a k xs, vs = [.ref a] ∧ SqX K k H1 a xs ∧ R (ItE2 K k a) H1
theorem pi_enumX {ta : TA} {p tpos : Pos} {kk : Nat} (hg : Gl X "enumerate") (hm : X.mg "enumerate" = none) (ha : PA X [e] ta) (hs : starEach [e] X.env = [(false, eval e X.env)] := by rfl) :
    PI X (.Tuple elts kk tpos) (.Call (.Name "enumerate" p) [e] [] pos) (iEnumX X.K ta) := by
  refine ⟨fun pins s σ H R I h => ?_⟩
  refine Call_ (ld_blt I hg hm boot_enumerate (PyProof.Rows.callWith_type1 (thn (ha.run pos pins s σ H _ I h) fun us s1 ⟨vs, H1, I1, r1, q1⟩ => ?_) hs rfl))
  obtain ⟨a, k, xs, ex, hq, q⟩ := q1
  subst ex
  cases r1 with
  | cons r rr =>
    cases rr
    cases r
    obtain ⟨its, rv, p1, la⟩ := Inv.seqX I1 hq
    refine call_enumX k p1 fun h' he hit hk => wpAny_pyIter_enum he ?_
    have I2 : Inv X pins σ H1 { s1 with heap := h' } := I1.kept (t' := s1.toks) hk
    refine ⟨s1.heap.objs.size + 1, [s1.heap.objs.size + 1, s1.heap.objs.size], _, _, H1, rfl, I2, turn_enumX k (Nat.succ_ne_self _) (Nat.ne_of_gt (Nat.lt_succ_of_lt la)) (Nat.ne_of_lt la), ⟨⟨.none, he⟩, hit⟩, fun b hb => ?_, q⟩
    have e' : b = s1.heap.objs.size + 1 ∨ b = s1.heap.objs.size := by simpa using hb
    have hle : s1.heap.objs.size ≤ b := by
      rcases e' with z | z
      · rw [z]; exact Nat.le_add_right _ _
      · rw [z]; exact Nat.le_refl _
    exact I1.fpOk hle (I1.hok.fresh hle)
def enumD : Nat → List D → List D
  | _, [] => []
  | i, d :: ds => .tup [.int (i : Nat), d] :: enumD (i + 1) ds
theorem enumD_get : ∀ (ds : List D) (j i : Nat) (d : D), ds[i]? = some d → (enumD j ds)[i]? = some (.tup [.int ((j + i : Nat) : Int), d])
  | [], _, _, _, h => by simp at h
  | d :: ds, j, 0, x, h => by simp at h; subst h; rfl
  | d :: ds, j, i + 1, x, h => by
    have := enumD_get ds (j + 1) i x (by simpa using h)
    rw [show j + (i + 1) = j + 1 + i by omega]
    simpa [enumD] using this
theorem enumD_len : ∀ (ds : List D) (j : Nat), (enumD j ds).length = ds.length
  | [], _ => rfl
  | d :: ds, j => by rw [enumD, List.length_cons, enumD_len ds, List.length_cons]
theorem dw_enum {Mu : Addr → Prop} {H1 : Hp} {K : PySem.W.Frag} {k1 : Bool} {a : Addr} {vs : List V} {ds : List D} (ka : ∀ H2, SameM τ Mu H1 H2 → SqX K k1 H2 a vs)
    (ra : RA Mu H1 vs ds) : DW τ H1 Mu (ItE2 K k1 a) (enumD 0 ds) := fun Mu' m H2 s => by
  have e : (enumD 0 ds).length = vs.length := by rw [enumD_len, ra.length]
  refine ⟨fun i hi => ⟨vs, ka H2 s, by rw [← e]; exact hi⟩, ⟨vs, ka H2 s, e⟩, fun i x H3 hi y => ?_⟩
  obtain ⟨T, u, rfl, hT, rfl, f1⟩ := y
  obtain ⟨d1, h1, r1⟩ := ra.get' (f1 vs (ka H2 s))
  refine ⟨same_new (τ := τ) hT, _, enumD_get ds 0 i d1 h1, .tup upd_same (.cons ?_ (.cons ?_ .nil))⟩
  · rw [Nat.zero_add]; exact .int _
  · exact r1.widen m (s.trans (toM (same_new (τ := τ) hT)))
def dEnum (t : DA) : DI := fun δ K => t δ fun ds => match ds with
  | [x] => (match seqOf x with | some xs => K (enumD 0 xs) | _ => False)
  | _ => False
theorem pdi_enum {t : DA} {p tpos : Pos} {kk : Nat} (hg : Gl X "enumerate") (hm : X.mg "enumerate" = none) (ha : PDA τ X H0 [e] t) (hs : starEach [e] X.env = [(false, eval e X.env)] := by rfl) :
    PDI τ X H0 (.Tuple elts kk tpos) (.Call (.Name "enumerate" p) [e] [] pos) (dEnum t) := by
  refine ⟨fun Mu => PI.imp (pi_enumX hg hm (ha.pa Mu) hs) fun σ H RR ⟨δ, K, e, h, q⟩ => ⟨δ, _, e, h, fun ds hd vs H' s r => ?_⟩⟩
  split at hd
  · split at hd
    · rename_i e1
      cases r with
      | cons r1 r2 =>
        cases r2
        obtain ⟨a, k1, us, rfl, q1, ra, ka⟩ := R.seq (τ := τ) (K := X.K) r1 e1
        exact ⟨a, k1, us, rfl, q1, q _ hd _ H' s (dw_enum ka ra)⟩
    · exact hd.elim
  · exact hd.elim
end
end Gf
namespace Gf
open PySem PySem.Spec PyProof.Rows L2
variable {τ : Tbs}
/-! ### a list of one's own, written -/
abbrev Own (Mu : Addr → Prop) (a : Addr) : Addr → Prop := fun b => Mu b ∨ b = a
structure OS (τ : Tbs) (Mu : Addr → Prop) (a : Addr) (i : Nat) (H0 H : Hp) (σ : L2.St) (δ : DSt) (xs : List D) : Prop where
  es : ES τ (Own Mu a) H0 H σ δ
  at_ : dAt δ i = some (.raw (.ref a))
  ls : ∃ vs, H a = some (.lst vs) ∧ RA (Own Mu a) H vs xs
  nmu : ¬ Mu a
  fr : H0 a = none
structure OEnds where
  nx : DSt → List D → Prop
  rt : D → List D → Prop
  bk : DSt → List D → Prop := fun _ _ => False
  ct : DSt → List D → Prop := fun _ _ => False
abbrev OTS := OEnds → DSt → List D → Prop
section
variable {Mu : Addr → Prop} {a : Addr} {i n : Nat} {H0 H H' : Hp} {σ : L2.St} {δ : DSt} {xs : List D}
theorem OS.same (o : OS τ Mu a i H0 H σ δ xs) (s : Same τ H H') : OS τ Mu a i H0 H' σ δ xs :=
  ⟨o.es.same s, o.at_, let ⟨vs, h, r⟩ := o.ls; ⟨vs, s _ _ h, r.same s⟩, o.nmu, o.fr⟩
/-- published: the list is read as data -/
theorem OS.pub (o : OS τ Mu a i H0 H σ δ xs) : ES τ Mu H0 H σ (δ.set i (some (.lst xs))) := by
  obtain ⟨vs, h, r⟩ := o.ls
  have f : SameM τ (Own Mu a) H H := ⟨fun _ _ e _ _ => e, fun _ _ t => t⟩
  have m : ∀ b u, H b = some u → ¬ Own Mu a b → ¬ Mu b := fun _ _ _ n z => n (.inl z)
  refine ⟨fun b hb => o.es.mu b (.inl hb), o.es.sm, fun j d hd => ?_⟩
  by_cases hj : i = j
  · subst hj
    by_cases hl : i < δ.length
    · rw [List.getElem?_set_self hl] at hd
      cases hd
      obtain ⟨v, e, rv⟩ := o.es.at_ i _ (dAt_some o.at_)
      cases rv
      exact ⟨_, e, .lst h o.nmu (RA.go f m _ _ r)⟩
    · rw [List.getElem?_eq_none (by rw [List.length_set]; omega)] at hd
      cases hd
  · rw [List.getElem?_set_ne hj] at hd
    obtain ⟨v, e, rv⟩ := o.es.at_ j d hd
    exact ⟨v, e, R.go f m _ _ rv⟩
structure OEndsOk (τ : Tbs) (Mu : Addr → Prop) (a : Addr) (i : Nat) (H0 H : Hp) (n : Nat) (K : OEnds) (Z : Ends) : Prop where
  nx : ∀ δ' xs', K.nx δ' xs' → ∀ σ' H', σ'.length = n → SameM τ (Own Mu a) H H' → OS τ Mu a i H0 H' σ' δ' xs' → Z.nx σ' H'
  rt : ∀ d xs', K.rt d xs' → ∀ v H', SameM τ (Own Mu a) H H' → Same τ H0 H' → R Mu H' v d → (∃ vs, H' a = some (.lst vs) ∧ RA (Own Mu a) H' vs xs') → Z.rt v H'
  bk : ∀ δ' xs', K.bk δ' xs' → ∀ σ' H', σ'.length = n → SameM τ (Own Mu a) H H' → OS τ Mu a i H0 H' σ' δ' xs' → Z.bk σ' H'
  ct : ∀ δ' xs', K.ct δ' xs' → ∀ σ' H', σ'.length = n → SameM τ (Own Mu a) H H' → OS τ Mu a i H0 H' σ' δ' xs' → Z.ct σ' H'
theorem OEndsOk.same {K : OEnds} {Z : Ends} (e : OEndsOk τ Mu a i H0 H n K Z) (s : SameM τ (Own Mu a) H H') : OEndsOk τ Mu a i H0 H' n K Z :=
  ⟨fun d x k t u l f g => e.nx d x k t u l (s.trans f) g, fun d x k v u f g r l => e.rt d x k v u (s.trans f) g r l, fun d x k t u l f g => e.bk d x k t u l (s.trans f) g, fun d x k t u l f g => e.ct d x k t u l (s.trans f) g⟩
def LO (τ : Tbs) (Mu : Addr → Prop) (i : Nat) (H0 : Hp) (n : Nat) (t : OTS) : TS := fun Z σ H => σ.length = n ∧ ∃ a δ xs K, OS τ Mu a i H0 H σ δ xs ∧ t K δ xs ∧ OEndsOk τ Mu a i H0 H n K Z
end
structure POw (τ : Tbs) (X : Cx) (H0 : Hp) (i : Nat) (st : Stmt) (t : OTS) : Prop where
  ps : ∀ Mu, PS X st (LO τ Mu i H0 X.N.length t)
structure POws (τ : Tbs) (X : Cx) (H0 : Hp) (i : Nat) (st : List Stmt) (t : OTS) : Prop where
  pss : ∀ Mu, PSs X st (LO τ Mu i H0 X.N.length t)
mutual
/-- no list within -/
def plain : D → Bool
  | .lst _ => false
  | .tup xs => plains xs
  | .spr => false
  | .hob _ => false
  | .fnc _ _ _ _ _ ds => plains ds
  | _ => true
def plains : List D → Bool
  | [] => true
  | d :: ds => plain d && plains ds
end
mutual
theorem R.plain {Mu Mu' : Addr → Prop} {H : Hp} : ∀ (d : D) (v : V), plain d = true → R Mu H v d → R Mu' H v d
  | .non, _, _, h => by cases h; exact .non
  | .bl _, _, _, h => by cases h; exact .bl _
  | .int _, _, _, h => by cases h; exact .int _
  | .str _, _, _, h => by cases h; exact .str _
  | .tup ds, _, p, h => by
    cases h with
    | tup h1 h2 => exact .tup h1 (RA.plain ds _ (by rw [Gf.plain] at p; exact p) h2)
  | .raw _, _, _, h => by cases h; exact .raw _
  | .lst _, _, p, _ => by rw [Gf.plain] at p; cases p
  | .spr, _, p, _ => by rw [Gf.plain] at p; cases p
  | .hob _, _, p, _ => by rw [Gf.plain] at p; cases p
  | .fnc _ _ _ _ _ ds, _, p, h => by
    cases h with
    | fnc h1 h2 h3 h4 => exact .fnc h1 h2 h3 (RA.plain ds _ (by rw [Gf.plain] at p; exact p) h4)
theorem RA.plain {Mu Mu' : Addr → Prop} {H : Hp} : ∀ (ds : List D) (vs : List V), plains ds = true → RA Mu H vs ds → RA Mu' H vs ds
  | [], _, _, h => by cases h; exact .nil
  | d :: ds, _, p, h => by
    rw [plains, Bool.and_eq_true] at p
    cases h with
    | cons h1 h2 => exact .cons (R.plain d _ p.1 h1) (RA.plain ds _ p.2 h2)
end
section
variable {X : Cx} {H0 : Hp} {pos : Pos} {i : Nat}
variable {c e e2 : Expr} {es : List Expr} {te te2 : DE} {tA : DT} {st : Stmt} {rest : List Stmt} {t u : OTS}
/-- what is read with the list published -/
def oE (i : Nat) (te : DE) (δ : DSt) (xs : List D) (K : DK) : Prop := te (δ.set i (some (.lst xs))) fun d => plain d = true ∧ K d
def oT (i : Nat) (tt : DT) (δ : DSt) (xs : List D) (K : Bool → Prop) : Prop := tt (δ.set i (some (.lst xs))) K
theorem oE_read {Mu : Addr → Prop} {a : Addr} {H : Hp} {σ : L2.St} {δ : DSt} {xs : List D} {K : DK} {Q : VK} (o : OS τ Mu a i H0 H σ δ xs) (h : oE i te δ xs K) (q : ∀ d, K d → plain d = true → ∀ v H', Same τ H H' → R (Own Mu a) H' v d → Q v H') : LE τ Mu H0 te σ H Q :=
  ⟨_, _, o.pub, h, fun d hd v H' s r => q d hd.2 hd.1 v H' s (R.plain d v hd.1 r)⟩
def oSet (i j : Nat) (te : DE) : OTS := fun K δ xs => oE i te δ xs fun d => K.nx (δ.set j (some d)) xs
theorem dAt_set_ne {δ : DSt} {i j : Nat} {o : Option D} (h : j ≠ i) : dAt (δ.set j o) i = dAt δ i := by unfold dAt; rw [List.getElem?_set_ne h]
theorem pow_set (j : Nat) {x : Str} {pos' : Pos} (he : PD τ X H0 e te) (hN : X.N.Nodup) (hji : j ≠ i := by decide) (hi : X.N[j]? = some x := by rfl) (hx : Loc X.env.scope x := by first | exact Or.inl rfl | exact Or.inr rfl) (hs : swapsWith e (some (.Name x pos')) pos.line X.env = pure false := by rfl)
    (hf : X.fn x = true ∨ X.env.scope.names.lookup x = some .local := by first | exact .inl rfl | exact .inr rfl | assumption) : POw τ X H0 i (.Assign [.Name x pos'] e pos) (oSet i j te) := by
  refine ⟨fun Mu => PS.imp (ps_set hN hi hx (he.pe Mu) hs hf) fun Z σ H _ ⟨hn, a, δ, xs, K, o, h, z⟩ => ?_⟩
  have hl : j < σ.length := by rw [hn]; exact (List.getElem?_eq_some_iff.mp hi).1
  refine oE_read o h fun d hd _ v H' s r => ?_
  have o' := o.same s
  exact z.nx _ _ hd _ H' (by rw [List.length_set]; exact hn) (toM s) ⟨o'.es.set r hl, by rw [dAt_set_ne hji]; exact o.at_, o'.ls, o.nmu, o.fr⟩
def oPass : OTS := fun K δ xs => K.nx δ xs
theorem pow_nil : POws τ X H0 i [] oPass := ⟨fun Mu => PSs.imp pss_nil fun Z σ H _ ⟨hn, a, δ, xs, K, o, h, z⟩ => z.nx δ xs h σ H hn (toM (Same.refl H)) o⟩
theorem pow_one (h : POw τ X H0 i st t) : POws τ X H0 i [st] t := ⟨fun Mu => pss_one (h.ps Mu)⟩
def oSeq (t u : OTS) : OTS := fun K δ xs => t { K with nx := fun δ' xs' => u K δ' xs' } δ xs
theorem pow_cons (h1 : POw τ X H0 i st t) (h2 : POws τ X H0 i rest u) : POws τ X H0 i (st :: rest) (oSeq t u) := by
  refine ⟨fun Mu => PSs.imp (pss_cons (h1.ps Mu) (h2.pss Mu)) fun Z σ H hl ⟨hn, a, δ, xs, K, o, h, z⟩ => ⟨hn, a, δ, xs, _, o, h, ?_⟩⟩
  exact ⟨fun δ' xs' h' σ' H' l' s' o' => ⟨l', a, δ', xs', K, o', h', z.same s'⟩, z.rt, z.bk, z.ct⟩
def oIf (c : DT) (i : Nat) (t u : OTS) : OTS := fun K δ xs => oT i c δ xs fun b => if b = true then t K δ xs else u K δ xs
theorem pow_if {s1 s2 : List Stmt} (hc : PDT τ X H0 c tA) (ha : POws τ X H0 i s1 t) (hb : POws τ X H0 i s2 u) : POw τ X H0 i (.If c s1 s2 pos) (oIf tA i t u) := by
  refine ⟨fun Mu => PS.imp (ps_if (hc.pt Mu) (ha.pss Mu) (hb.pss Mu)) fun Z σ H _ ⟨hn, a, δ, xs, K, o, h, z⟩ => ⟨_, _, o.pub, h, fun k hk H' s => ?_⟩⟩
  cases k with
  | true => exact iteT ⟨hn, a, δ, xs, K, o.same s, (by simpa using hk), z.same (toM s)⟩
  | false => exact iteF ⟨hn, a, δ, xs, K, o.same s, (by simpa using hk), z.same (toM s)⟩
/-- return e, read with the list published -/
def oRet (i : Nat) (te : DE) : OTS := fun K δ xs => te (δ.set i (some (.lst xs))) fun d => K.rt d xs
theorem pow_ret (he : PD τ X H0 e te) : POw τ X H0 i (.Return (some e) pos) (oRet i te) :=
  ⟨fun Mu => PS.imp (ps_ret (he.pe Mu)) fun Z σ H _ ⟨hn, a, δ, xs, K, o, h, z⟩ => ⟨_, _, o.pub, h, fun d hd v H' s r => z.rt d xs hd v H' (toM s) (o.es.sm.trans s) r (o.same s).ls⟩⟩
/-- the rest of the block, read with the list published -/
def oTail (i : Nat) (t : DTS) : OTS := fun K δ xs => t { nx := fun _ => False, rt := fun d => K.rt d xs } (δ.set i (some (.lst xs)))
theorem pow_tail {t : DTS} (h : PDSs τ X H0 rest t) : POws τ X H0 i rest (oTail i t) := by
  refine ⟨fun Mu => PSs.imp (h.pss Mu) fun Z σ H _ ⟨hn, a, δ, xs, K, o, h, z⟩ => ⟨hn, _, _, o.pub, h, ?_⟩⟩
  exact ⟨fun _ h' => h'.elim, fun d hd v H' s r => z.rt d xs hd v H' (toM s) (o.es.sm.trans s) r (o.same s).ls, fun _ h' => h'.elim, fun _ h' => h'.elim⟩
theorem SameM.own {Mu : Addr → Prop} {a : Addr} {H : Hp} {vs ws : List V} (h : H a = some (.lst vs)) : SameM τ (Own Mu a) H (upd H a (.lst ws)) := by
  refine ⟨fun b o e n _ => ?_, tab_own h⟩
  by_cases hb : b = a
  · subst hb
    rw [h] at e
    exact absurd (.inr rfl) (n ⟨_, (Option.some.inj e).symm⟩)
  · rw [upd_ne hb]; exact e
theorem OS.put {Mu : Addr → Prop} {a : Addr} {H : Hp} {σ : L2.St} {δ : DSt} {xs ys : List D} {ws : List V} (o : OS τ Mu a i H0 H σ δ xs) (r : RA (Own Mu a) H ws ys) : OS τ Mu a i H0 (upd H a (.lst ws)) σ δ ys ∧ SameM τ (Own Mu a) H (upd H a (.lst ws)) := by
  obtain ⟨vs, h, _⟩ := o.ls
  have s : SameM τ (Own Mu a) H (upd H a (.lst ws)) := SameM.own h
  refine ⟨⟨⟨fun b hb => ?_, ⟨fun b u e nt => ?_, fun p m t => tab_own h p m (o.es.sm.tab p m t)⟩, fun j d hd => ?_⟩, o.at_, ⟨ws, upd_same, r.sameM s⟩, o.nmu, o.fr⟩, s⟩
  · by_cases z : b = a
    · subst z; rw [upd_same]; exact ⟨_, rfl, fun _ z => nomatch z⟩
    · rw [upd_ne z]; exact o.es.mu b hb
  · rw [upd_ne (ne_of_none e o.fr)]; exact o.es.sm.app b u e nt
  · obtain ⟨v, e, rv⟩ := o.es.at_ j d hd
    exact ⟨v, e, rv.sameM s⟩
/-- xs.append(e) -/
def oApp (i : Nat) (te : DE) : OTS := fun K δ xs => oE i te δ xs fun d => xs.length < sizeLine ∧ K.nx δ (xs ++ [d])
theorem pow_app {x : Str} {p1 apos cpos : Pos} (he : PD τ X H0 e te) (hN : X.N[i]? = some x := by rfl) (hv : Vis X.env.scope x := by first | exact Or.inl rfl | exact Or.inr (Or.inl rfl) | exact Or.inr (Or.inr rfl)) (hd : (x == ("__debug__" : Str)) = false := by decide)
    (hcd : (x == ("__classdict__" : Str)) = false := by decide) (hbase : attributeBase (.Name x p1) "append" X.env (eval (.Name x p1) X.env) = eval (.Name x p1) X.env := by rfl)
    (hfew : ((backTo cpos (starEach [e] X.env)).all (fun x => !x.1) && (backToKw cpos (keywordEach [] X.env)).all (fun x => x.1.isSome)
      && decide (([e] : List Expr).length + ([] : List Keyword).length + (if ([] : List Keyword).isEmpty then 0 else 1) < 30)) = true := by rfl)
    (hline : (apos.endLine == cpos.line) = true := by rfl) (hs : starEach [e] X.env = (false, eval e X.env) :: starEach [] X.env := by rfl) (hplain : (backTo cpos (starEach [] X.env)).any (·.1) = false := by rfl)
    (hsw : swapsWith (.Call (.Attribute (.Name x p1) "append" apos) [e] [] cpos) none pos.line X.env = pure false := by rfl) :
    POw τ X H0 i (.Expr (.Call (.Attribute (.Name x p1) "append" apos) [e] [] cpos) pos) (oApp i te) := by
  refine ⟨fun Mu => PS.imp (ps_expr (pe_bm PySem.F.plainAttrs_list PySem.F.slot_list_append PySem.F.type_list_append mt_append (pe_var (i := i) hN hv hd hcd) (pa_cons (he.pe Mu) pa_nil hs) hbase hfew hline hs hplain) hsw) fun Z σ H _ ⟨hn, a, δ, xs, K, o, h, z⟩ => ?_⟩
  obtain ⟨v0, e0, r0⟩ := o.es.at_ i _ (dAt_some o.at_)
  cases r0
  obtain ⟨vs, hvs, rvs⟩ := o.ls
  refine ⟨_, e0, .inl ⟨rfl, vs, .of hvs⟩, oE_read o h fun d hd _ v H' s r => ?_⟩
  have o' := o.same s
  obtain ⟨o2, s2⟩ := o'.put (ws := vs ++ [v]) ((rvs.same s).app (.one r))
  exact ⟨a, vs, v, rfl, rfl, s _ _ hvs, by rw [rvs.length]; exact hd.1, z.nx _ _ hd.2 _ _ hn ((toM s).trans s2) o2⟩
theorem RA.put {Mu : Addr → Prop} {H : Hp} {v : V} {d : D} : ∀ {vs : List V} {ds : List D} (j : Nat), RA Mu H vs ds → R Mu H v d → RA Mu H (vs.set j v) (ds.set j d)
  | _, _, _, .nil, _ => .nil
  | _, _, 0, .cons _ t, r => .cons r t
  | _, _, j + 1, .cons r0 t, r => .cons r0 (RA.put j t r)
/-- xs[e] = e2 -/
def oPut (i : Nat) (te te2 : DE) : OTS := fun K δ xs => oE i te2 δ xs fun d => oE i te δ xs fun k => match k with | .int k => (match ixN xs.length k with | some j => K.nx δ (xs.set j d) | none => False) | _ => False
theorem pow_put {x : Str} {p1 tpos : Pos} (he : PD τ X H0 e te) (he2 : PD τ X H0 e2 te2) (hN : X.N[i]? = some x := by rfl) (hv : Vis X.env.scope x := by first | exact Or.inl rfl | exact Or.inr (Or.inl rfl) | exact Or.inr (Or.inr rfl)) (hd : (x == ("__debug__" : Str)) = false := by decide)
    (hcd : (x == ("__classdict__" : Str)) = false := by decide)
    (ha : ∀ v, assign (.Subscript (.Name x p1) e tpos) X.env v = (do
      let ov ← holding [v] (eval (.Name x p1) X.env)
      let iv ← holding [v, ov] (eval e X.env)
      standAt tpos
      holding [v, ov, iv] (setItem ov iv v)
      release [v, ov, iv] []) := by intro _; rfl)
    (hs : swapsWithSole [.Subscript (.Name x p1) e tpos] e2 pos.line X.env = pure false := by rfl) (hw : swappedStores [.Subscript (.Name x p1) e tpos] e2 X.env = pure none := by rfl)
    (h1 : (assignEach [.Subscript (.Name x p1) e tpos] X.env).map (·.2) = [assign (.Subscript (.Name x p1) e tpos) X.env] := by rfl) :
    POw τ X H0 i (.Assign [.Subscript (.Name x p1) e tpos] e2 pos) (oPut i te te2) := by
  refine ⟨fun Mu => PS.imp (ps_asg (he2.pe Mu) (pg_sub (pe_var (i := i) hN hv hd hcd) (he.pe Mu) set_list ha) hs hw h1) fun Z σ H _ ⟨hn, a, δ, xs, K, o, h, z⟩ => ?_⟩
  obtain ⟨v0, e0, r0⟩ := o.es.at_ i _ (dAt_some o.at_)
  cases r0
  refine oE_read o h fun d hd _ v H' s r => ⟨_, e0, oE_read (o.same s) hd fun k hk _ v2 H2 s2 r2 => ?_⟩
  have o2 := (o.same s).same s2
  obtain ⟨vs, hvs, rvs⟩ := o2.ls
  split at hk
  · cases r2
    split at hk
    · rename_i j ej
      obtain ⟨o3, s3⟩ := o2.put (ws := vs.set j v) (RA.put j rvs (r.same s2))
      exact ⟨a, vs, _, j, rfl, rfl, hvs, by rw [rvs.length]; exact ej, z.nx _ _ hk _ _ hn (((toM s).trans (toM s2)).trans s3) o3⟩
    · exact hk.elim
  · exact hk.elim
/-! for -/
def oForW (g : DG) (tb : OTS) (i : Nat) (K : OEnds) : List D → DSt → List D → Prop
  | [], δ, xs => K.nx δ xs
  | x :: ws, δ, xs => g x δ fun δ1 => dAt δ1 i = dAt δ i ∧ tb { nx := oForW g tb i K ws, rt := K.rt, bk := K.nx, ct := oForW g tb i K ws } δ1 xs
def oFor (ti : DI) (g : DG) (i : Nat) (tb : OTS) : OTS := fun K δ xs => ti δ fun ws => oForW g tb i K ws δ xs
theorem pow_for {vs : List Nat} {tg iter : Expr} {body : List Stmt} {ti : DI} {g : DG} {tb : OTS} (hi : PDI τ X H0 tg iter ti) (hg : PDGv τ X H0 vs tg g) (hb : POws τ X H0 i body tb) (hp : PassesOwn (model X.prog X.w) X.A X.env X.xe := by exact PassesOwn.never) (hc : X.calm = true := by rfl)
    (hs : ∀ x, foldedSetIterable iter X.env x = pure x := by intro _; rfl) : POw τ X H0 i (.For tg iter body [] pos) (oFor ti g i tb) := by
  refine ⟨fun Mu => ⟨fun pins s0 σ H Z I ⟨hn, a, δ, xs, K, o, h, z⟩ => ?_⟩⟩
  refine (ps_for hp hc (hi.pi (Own Mu a)) (hg.pg (Own Mu a)) (hb.pss Mu) hs).run pins s0 σ H Z I ?_
  refine ⟨δ, _, o.es, h, fun ws hx J H1 s1 w => ?_⟩
  refine ⟨fun k m σ H => m = ws.length - k ∧ k ≤ ws.length ∧ σ.length = X.N.length ∧ SameM τ (Own Mu a) H1 H ∧ ∃ δ xs, OS τ Mu a i H0 H σ δ xs ∧ oForW g tb i K (ws.drop k) δ xs, ⟨ws.length, by simp, Nat.zero_le _, hn, toM (Same.refl _), δ, xs, o.same s1, hx⟩, ?_⟩
  rintro k m σ2 H2 ⟨rfl, hi, hl, s2, δ2, xs2, o2, f⟩
  obtain ⟨w1, w2, w3⟩ := w (Own Mu a) (fun a h => .inl h) H2 s2
  by_cases hlt : k < ws.length
  · refine .inr ⟨w1 k hlt, fun σ' H' => σ'.length = X.N.length ∧ SameM τ (Own Mu a) H1 H' ∧ ∃ δ xs, OS τ Mu a i H0 H' σ' δ xs ∧ oForW g tb i K (ws.drop (k + 1)) δ xs, fun σ' H' q => ⟨ws.length - (k + 1), by omega, rfl, hlt, q⟩, fun x H3 y => ?_⟩
    obtain ⟨s3, d, hd, rd⟩ := w3 k x H3 hlt y
    have ed : ws.drop k = d :: ws.drop (k + 1) := by
      obtain ⟨h1, h2⟩ := List.getElem?_eq_some_iff.mp hd
      rw [List.drop_eq_getElem_cons h1, h2]
    rw [ed] at f
    have o3 := o2.same s3
    refine ⟨hl, d, δ2, _, o3.es, rd, f, fun δ' h' σ' H' l' _ s' e' => ⟨l', a, δ', xs2, _, ⟨e', by rw [h'.1]; exact o2.at_, (o3.same s').ls, o2.nmu, o2.fr⟩, h'.2, ?_⟩⟩
    have s02 := s2.trans ((toM s3).trans (toM s'))
    exact ⟨fun δ4 xs4 h4 σ4 H4 l4 s4 e4 => ⟨l4, s02.trans s4, δ4, xs4, e4, h4⟩, fun d4 xs4 h4 v4 H4 s4 => z.rt d4 xs4 h4 v4 H4 ((toM s1).trans (s02.trans s4)), fun δ4 xs4 h4 σ4 H4 l4 s4 e4 => z.nx δ4 xs4 h4 σ4 H4 l4 ((toM s1).trans (s02.trans s4)) e4, fun δ4 xs4 h4 σ4 H4 l4 s4 e4 => ⟨l4, s02.trans s4, δ4, xs4, e4, h4⟩⟩
  · have ei : k = ws.length := by omega
    subst ei
    rw [List.drop_length] at f
    exact .inl ⟨w2, z.nx δ2 xs2 f σ2 H2 hl ((toM s1).trans s2) o2⟩
/-! while -/
def oWhile (c : DT) (i : Nat) (tb : OTS) : OTS := fun K δ xs => ∃ W : Nat → DSt → List D → Prop, (∃ m, W m δ xs) ∧ ∀ m δ xs, W m δ xs → oT i c δ xs fun b => if b = true then tb { nx := fun δ' xs' => ∃ m', m' < m ∧ W m' δ' xs', rt := K.rt, bk := K.nx, ct := fun δ' xs' => ∃ m', m' < m ∧ W m' δ' xs' } δ xs else K.nx δ xs
theorem pow_while {body : List Stmt} {tb : OTS} (hc : PDT τ X H0 c tA) (hb : POws τ X H0 i body tb) (hp : PassesOwn (model X.prog X.w) X.A X.env X.xe := by exact PassesOwn.never) : POw τ X H0 i (.While c body [] pos) (oWhile tA i tb) := by
  refine ⟨fun Mu => PS.imp (ps_while hp (hc.pt Mu) (hb.pss Mu)) fun Z σ H _ ⟨hn, a, δ, xs, K, o, ⟨W, ⟨m0, w0⟩, turn⟩, z⟩ => ?_⟩
  refine ⟨fun m σ' H' => σ'.length = X.N.length ∧ SameM τ (Own Mu a) H H' ∧ ∃ δ xs, OS τ Mu a i H0 H' σ' δ xs ∧ W m δ xs, ⟨m0, hn, toM (Same.refl _), δ, xs, o, w0⟩, ?_⟩
  rintro m σ1 H1 ⟨l1, s1, δ1, xs1, o1, w1⟩
  refine ⟨_, _, o1.pub, turn m δ1 xs1 w1, fun b hb H2 s2 => ?_⟩
  cases b with
  | true =>
    refine iteT ⟨fun σ' H' => σ'.length = X.N.length ∧ SameM τ (Own Mu a) H H' ∧ ∃ δ xs, OS τ Mu a i H0 H' σ' δ xs ∧ ∃ m', m' < m ∧ W m' δ xs, fun σ' H' ⟨l', s', δ', xs', o', m', hm, w'⟩ => ⟨m', hm, l', s', δ', xs', o', w'⟩, l1, a, δ1, xs1, _, o1.same s2, (by simpa using hb), ?_⟩
    have s := s1.trans (toM s2)
    exact ⟨fun δ4 xs4 h4 σ4 H4 l4 s4 e4 => ⟨l4, s.trans s4, δ4, xs4, e4, h4⟩, fun d4 xs4 h4 v4 H4 s4 => z.rt d4 xs4 h4 v4 H4 (s.trans s4), fun δ4 xs4 h4 σ4 H4 l4 s4 e4 => z.nx δ4 xs4 h4 σ4 H4 l4 (s.trans s4) e4, fun δ4 xs4 h4 σ4 H4 l4 s4 e4 => ⟨l4, s.trans s4, δ4, xs4, e4, h4⟩⟩
  | false => exact iteF (z.nx δ1 xs1 (by simpa using hb) σ1 H2 l1 (s1.trans (toM s2)) (o1.same s2))
/-! ### where it begins -/
structure PDN (τ : Tbs) (X : Cx) (H0 : Hp) (e : Expr) (t : DA) : Prop where
  pe : ∀ Mu, PE X e (fun σ H Q => ∃ δ K, ES τ Mu H0 H σ δ ∧ t δ K ∧ ∀ ds, K ds → ∀ p vs H1, Same τ H H1 → H1 p = none → RA Mu H1 vs ds → Q (.ref p) (upd H1 p (.lst vs)))
variable {tda : DA}
def nLst (t : DA) : DA := fun δ K => t δ fun ds => ds.length ≤ sizeLine ∧ K ds
theorem pdn_lst (h : PDA τ X H0 es tda) : PDN τ X H0 (.List es pos) (nLst tda) :=
  ⟨fun Mu => PE.imp (pe_lst (h.pa Mu)) fun σ H Q ⟨δ, K, e, h, q⟩ => ⟨δ, _, e, h, fun ds h1 vs H1 s1 r1 => ⟨by rw [r1.length]; exact h1.1, fun p hp => q _ h1.2 p vs H1 s1 hp r1⟩⟩⟩
def nRep (t : DE) (te : DE) : DA := fun δ K => t δ fun d => te δ fun n => match d, n with | .lst xs, .int k => (-(2 ^ 63) ≤ k ∧ k < 2 ^ 63 ∧ xs.length * k.toNat ≤ sizeLine) ∧ K (List.replicate k.toNat xs).flatten | _, _ => False
theorem pdn_rep (h : PD τ X H0 e te) (h2 : PD τ X H0 e2 te2) : PDN τ X H0 (.BinOp e .Mult e2 pos) (nRep te te2) := by
  refine ⟨fun Mu => PE.imp (pe_op op_rep (h.pe Mu) (h2.pe Mu)) fun σ H Q ⟨δ, K, e, h, q⟩ => ⟨δ, _, e, h, fun d1 h1 v1 H1 s1 r1 => ⟨δ, _, e.same s1, h1, fun d2 h2 v2 H2 s2 r2 => ?_⟩⟩⟩
  split at h2
  · cases r2
    cases r1 with
    | lst a1 a3 a2 => exact ⟨_, _, _, rfl, rfl, s2 _ _ a1, h2.1.1, h2.1.2.1, by rw [a2.length]; exact h2.1.2.2, fun p hp => q _ h2.2 p _ H2 (s1.trans s2) hp ((a2.same s2).rep _)⟩
  · exact h2.elim
theorem os_new {Mu : Addr → Prop} {H H1 : Hp} {σ : L2.St} {δ : DSt} {ds : List D} {vs : List V} {p : Addr} (e : ES τ Mu H0 H σ δ) (s : Same τ H H1) (hp : H1 p = none) (r : RA Mu H1 vs ds) (hi : i < σ.length) (hd : i < δ.length) :
    OS τ Mu p i H1 (upd H1 p (.lst vs)) (σ.set i (some (.ref p))) (δ.set i (some (.raw (.ref p)))) ds := by
  have m : ∀ b, Own Mu p b → Mu b ∨ H1 b = none := fun b h => h.imp id fun z => by rw [z]; exact hp
  have s2 : Same τ H1 (upd H1 p (.lst vs)) := same_new (τ := τ) hp
  have e1 : ES τ (Own Mu p) H1 (upd H1 p (.lst vs)) σ δ := by
    refine ⟨fun b hb => ?_, s2, fun j d h => let ⟨v, a, b⟩ := e.at_ j d h; ⟨v, a, (b.same s).widen m (toM s2)⟩⟩
    rcases hb with hb | hb
    · exact ((e.mu.same s).same s2) b hb
    · rw [hb, upd_same]; exact ⟨_, rfl, fun _ z => nomatch z⟩
  exact ⟨e1.set (.raw _) hi, by unfold dAt; rw [List.getElem?_set_self hd]; rfl, ⟨vs, upd_same, r.widen m (toM s2)⟩, (e.mu.same s).fresh hp, hp⟩
/-- x = a new list, then the rest, which writes it -/
def dNew (i : Nat) (tn : DA) (o : OTS) : DTS := fun K δ => i < δ.length ∧ tn δ fun ds => ∀ a, o { nx := fun δ' xs' => K.nx (δ'.set i (some (.lst xs'))), rt := fun d _ => K.rt d } (δ.set i (some (.raw (.ref a)))) ds
theorem pdss_new (i : Nat) {x : Str} {pos' : Pos} (he : PDN τ X H0 e tda) (hr : ∀ H1, POws τ X H1 i rest t) (hN : X.N.Nodup) (hi : X.N[i]? = some x := by rfl) (hx : Loc X.env.scope x := by first | exact Or.inl rfl | exact Or.inr rfl) (hs : swapsWith e (some (.Name x pos')) pos.line X.env = pure false := by rfl)
    (hf : X.fn x = true ∨ X.env.scope.names.lookup x = some .local := by first | exact .inl rfl | exact .inr rfl | assumption) : PDSs τ X H0 (.Assign [.Name x pos'] e pos :: rest) (dNew i tda t) := by
  refine ⟨fun Mu => PSs.imp (pss_cons (u := fun Z σ H => ∃ H1, LO τ Mu i H1 X.N.length t Z σ H) (ps_set hN hi hx (he.pe Mu) hs hf) ⟨fun pins s σ H Z I ⟨H1, h⟩ => ((hr H1).pss Mu).run pins s σ H Z I h⟩) fun Z σ H _ ⟨hn, δ, K, e, ⟨hd, h⟩, z⟩ => ?_⟩
  have hl : i < σ.length := by rw [hn]; exact (List.getElem?_eq_some_iff.mp hi).1
  refine ⟨δ, _, e, h, fun ds h1 p vs H1 s1 hp r1 => ⟨H1, by rw [List.length_set]; exact hn, p, _, ds, _, os_new e s1 hp r1 hl hd, h1 p, ?_⟩⟩
  refine ⟨fun δ' xs' h' σ' H' l' _ o' => z.nx _ h' σ' H' l' (s1.trans o'.es.sm) ?_, fun d _ hd v H' _ s' r _ => z.rt d hd v H' (s1.trans s') r, fun _ _ h' => h'.elim, fun _ _ h' => h'.elim⟩
  have e' := o'.pub
  exact ⟨e'.mu, e.sm.trans (s1.trans e'.sm), e'.at_⟩
end
end Gf
namespace Gf
open PySem PySem.Spec PyProof.Rows L2
variable {τ : Tbs}
section
variable {X : Cx} {H0 : Hp} {pos : Pos} {i : Nat} {e e2 b : Expr} {es : List Expr} {te te2 tb : DE} {rest : List Stmt} {t : OTS} {tda : DA}
theorem sprOk {P : Program} {w : World} {H : Hp} {h : Heap} {a : Addr} {x y : Int} {its : List Value} {n : Nat} (r : Vals [V.int x, V.int y] its) (e : h.get? a = some { cls := .type "list", data := .seq its.toArray n }) : ObjOk P w H h a (SprO a) := by
  cases r with
  | cons r1 r2 =>
    cases r2 with
    | cons r2 r3 =>
      cases r3
      obtain ⟨t, rfl⟩ := r1
      obtain ⟨u, rfl⟩ := r2
      exact ⟨⟨x, y, t, u, n, e⟩, ⟨_, e⟩, fun h1 h2 ⟨x, y, t, u, n, q⟩ k => ⟨x, y, t, u, n, k _ q⟩⟩
theorem inv_spr {pins : List (Addr × Obj)} {σ : L2.St} {H : Hp} {s : Shared} {a : Addr} {x y : Int} (I : Inv X pins σ H s) (h : H a = some (.lst [.int x, .int y])) : Inv X pins σ (upd H a (SprO a)) s := by
  obtain ⟨z, its, n, r, e⟩ := I.hok a _ h
  exact I.write (h' := s.heap) (t' := s.toks) (x := a) (e := a) (by rw [h]; trivial) (.inl rfl) (fun b u _ q => q) ⟨_, e⟩ (sprOk r e)
theorem inv_unspr {pins : List (Addr × Obj)} {σ : L2.St} {H : Hp} {s : Shared} {a : Addr} (I : Inv X pins σ H s) (h : H a = some (SprO a)) : ∃ x y, Inv X pins σ (upd H a (.lst [.int x, .int y])) s := by
  obtain ⟨⟨x, y, t, u, n, e⟩, _⟩ := I.hok a _ h
  exact ⟨x, y, I.write (h' := s.heap) (t' := s.toks) (x := a) (e := a) (by rw [h]; trivial) (.inl rfl) (fun b u _ q => q) ⟨_, e⟩ ⟨by show 2 ≤ sizeLine; decide, [.int x t, .int y u], n, .cons ⟨_, rfl⟩ (.cons ⟨_, rfl⟩ .nil), e⟩⟩
theorem pss_redo {st : List Stmt} {t : TS} (h : PSs X st t) : PSs X st (fun Z σ H => ∃ a, H a = some (SprO a) ∧ ∀ x y, t ⟨fun _ _ => False, fun v H' => (∃ x' y', H' a = some (.lst [.int x', .int y'])) ∧ Z.rt v (upd H' a (SprO a)), fun _ _ => False, fun _ _ => False⟩ σ (upd H a (.lst [.int x, .int y]))) := by
  refine ⟨fun pins s σ H Z I ⟨a, ha, q⟩ => ?_⟩
  obtain ⟨x, y, I1⟩ := inv_unspr I ha
  refine thn (h.run pins s σ _ _ I1 (q x y)) fun f s' p => ?_
  cases f with
  | next => obtain ⟨_, _, _, z⟩ := p; exact z.elim
  | brk => obtain ⟨_, _, _, z⟩ := p; exact z.elim
  | cont => obtain ⟨_, _, _, z⟩ := p; exact z.elim
  | ret u =>
    obtain ⟨v, σ', H', I', r, ⟨x', y', hl⟩, z⟩ := p
    exact ⟨v, σ', _, inv_spr I' hl, r, z⟩
theorem pe_redo {t : TE} (h : PE X e t) : PE X e (fun σ H Q => t σ H fun v H' => ∃ a x y, v = .ref a ∧ H' a = some (.lst [.int x, .int y]) ∧ Q v (upd H' a (SprO a))) := by
  refine ⟨fun pins s σ H Q I q => thn (h.run pins s σ H _ I q) fun u s' p => ?_⟩
  obtain ⟨v, H', I', r, a, x, y, rfl, hl, z⟩ := p
  exact ⟨_, _, inv_spr I' hl, r, z⟩
/-- return [x, y], a new spring -/
def dRetSpr (tn : DA) : DTS := fun K δ => tn δ fun ds => (∃ x y, ds = [.int x, .int y]) ∧ K.rt .spr
theorem pds_retSpr (he : PDN τ X H0 e tda) : PDS τ X H0 (.Return (some e) pos) (dRetSpr tda) := by
  refine ⟨fun Mu => PS.imp (ps_ret (pe_redo (he.pe Mu))) fun Z σ H _ ⟨hn, δ, K, e, h, z⟩ => ⟨δ, _, e, h, fun ds hd p vs H1 s hp r => ?_⟩⟩
  obtain ⟨⟨x, y, rfl⟩, k⟩ := hd
  have ev : vs = [V.int x, V.int y] := RA.ints (ns := [x, y]) r
  subst ev
  refine ⟨p, x, y, rfl, upd_same, ?_⟩
  rw [upd_upd]
  exact z.rt _ k _ _ (s.trans (same_new (τ := τ) hp)) (.spr upd_same ((e.mu.same s).fresh hp))
/-! ### the script -/
variable {a : Addr} {ns : List Int}
def dLenS (i : Nat) (a : Addr) (ns : List Int) : DE := fun δ K => dAt δ i = some (.raw (.ref a)) ∧ K (.int (ns.length : Nat))
theorem pd_lenS (i : Nat) (hS : SqL X.K H0 a (ns.map V.int)) {x : Str} {p p1 : Pos} (hm : X.mg "len" = none) (hg : Gl X "len" := by rfl) (hN : X.N[i]? = some x := by rfl) (hv : Vis X.env.scope x := by first | exact Or.inl rfl | exact Or.inr (Or.inl rfl) | exact Or.inr (Or.inr rfl)) (hd : (x == ("__debug__" : Str)) = false := by decide)
    (hcd : (x == ("__classdict__" : Str)) = false := by decide) (he : starEach [.Name x p1] X.env = (false, eval (.Name x p1) X.env) :: starEach [] X.env := by rfl) (hpl : (backTo pos (starEach [] X.env)).any (·.1) = false := by rfl) :
    PD τ X H0 (.Call (.Name "len" p) [.Name x p1] [] pos) (dLenS i a ns) := by
  refine ⟨fun Mu => PE.imp (pe_callB call_len_seq hg hm PySem.boot_len (pa_cons (pe_var (i := i) hN hv hd hcd) pa_nil he) (by decide) (by decide) he hpl) fun σ H Q ⟨δ, K, e, ⟨ha, hk⟩, q⟩ => ?_⟩
  obtain ⟨v, ev, r⟩ := e.at_ i _ (dAt_some ha)
  cases r
  refine ⟨_, ev, a, _, rfl, .inl (e.sm.seq hS), ?_⟩
  rw [List.length_map]
  exact q _ hk _ H (Same.refl H) (.int _)
def dIxS (i : Nat) (a : Addr) (ns : List Int) (tb : DE) : DE := fun δ K => dAt δ i = some (.raw (.ref a)) ∧ tb δ fun d => ∃ (k : Nat) (z : Int), d = .int (k : Nat) ∧ ns[k]? = some z ∧ K (.int z)
theorem pd_ixS (i : Nat) (hS : SqL X.K H0 a (ns.map V.int)) {x : Str} {p1 : Pos} (hs : PlainIx b) (hb : PD τ X H0 b tb) (hN : X.N[i]? = some x := by rfl) (hv : Vis X.env.scope x := by first | exact Or.inl rfl | exact Or.inr (Or.inl rfl) | exact Or.inr (Or.inr rfl)) (hd : (x == ("__debug__" : Str)) = false := by decide)
    (hcd : (x == ("__classdict__" : Str)) = false := by decide) : PD τ X H0 (.Subscript (.Name x p1) b pos) (dIxS i a ns tb) := by
  refine ⟨fun Mu => PE.imp (pe_ix ix_list (pe_var (i := i) hN hv hd hcd) (hb.pe Mu) hs) fun σ H Q ⟨δ, K, e, ⟨ha, hk⟩, q⟩ => ?_⟩
  obtain ⟨v, ev, r⟩ := e.at_ i _ (dAt_some ha)
  cases r
  refine ⟨_, ev, δ, _, e, hk, fun d hd v H' s r => ?_⟩
  obtain ⟨k, z, rfl, hz, hk⟩ := hd
  cases r
  have ez : (ns.map V.int)[k]? = some (.int z) := by rw [List.getElem?_map, hz]; rfl
  exact ⟨a, _, _, .int z, rfl, rfl, (e.sm.trans s).seq hS, atI_nat ez, q _ hk _ H' s (.int _)⟩
/-- x, y = a new list, e; then the rest -/
def dNewPar (i j : Nat) (tn : DA) (te : DE) (o : OTS) : DTS := fun K δ => i < δ.length ∧ j ≠ i ∧ tn δ fun ds => te δ fun d => ∀ a, o { nx := fun δ' xs' => K.nx (δ'.set i (some (.lst xs'))), rt := fun d _ => K.rt d } ((δ.set i (some (.raw (.ref a)))).set j (some d)) ds
theorem pdss_newPar (i j : Nat) {x y : Str} {px py pt : Pos} {kt k2 pt2} (ha : PDN τ X H0 e tda) (hb : PD τ X H0 b tb) (hr : ∀ H1, POws τ X H1 i rest t) (hpl : ∀ (δ : DSt) (K : DK), tb δ K → tb δ fun d => plain d = true ∧ K d) (hN : X.N.Nodup) (hc : X.calm = true := by rfl) (hi : X.N[i]? = some x := by rfl) (hj : X.N[j]? = some y := by rfl) (hij : i ≠ j := by decide)
    (hx : X.env.scope.names.lookup x = some .local := by rfl) (hy : X.env.scope.names.lookup y = some .local := by rfl)
    (hw : swappedStores [.Tuple [.Name x px, .Name y py] kt pt] (.Tuple [e, b] k2 pt2) X.env = pure (some [x, y]) := by rfl)
    (hs : swapsWithSole [.Tuple [.Name x px, .Name y py] kt pt] (.Tuple [e, b] k2 pt2) pos.line X.env = pure false := by rfl)
    (h1 : starEach (e :: [b]) X.env = (false, eval e X.env) :: starEach [b] X.env := by rfl) (h2 : starEach (b :: []) X.env = (false, eval b X.env) :: starEach [] X.env := by rfl) :
    PDSs τ X H0 (.Assign [.Tuple [.Name x px, .Name y py] kt pt] (.Tuple [e, b] k2 pt2) pos :: rest) (dNewPar i j tda tb t) := by
  refine ⟨fun Mu => PSs.imp (pss_cons (u := fun Z σ H => ∃ H1, LO τ Mu i H1 X.N.length t Z σ H) (ps_par hc hN hi hj hij hx hy (pa_cons (ha.pe Mu) (pa_cons (hb.pe Mu) pa_nil h2) h1) hw hs) ⟨fun pins s σ H Z I ⟨H1, h⟩ => ((hr H1).pss Mu).run pins s σ H Z I h⟩) fun Z σ H _ ⟨hn, δ, K, e, ⟨hd, hji, h⟩, z⟩ => ?_⟩
  have hl : i < σ.length := by rw [hn]; exact (List.getElem?_eq_some_iff.mp hi).1
  have hl2 : j < σ.length := by rw [hn]; exact (List.getElem?_eq_some_iff.mp hj).1
  refine ⟨δ, _, e, h, fun ds h1 p vs H1 s1 hp r1 => ⟨δ, _, e.same (s1.trans (same_new (τ := τ) hp)), hpl _ _ h1, fun d2 h2 v2 H2 s2 r2 => ⟨.ref p, v2, rfl, H1, by rw [List.length_set, List.length_set]; exact hn, p, _, ds, _, ?_, h2.2 p, ?_⟩⟩⟩
  · have o := (os_new e s1 hp r1 hl hd).same s2
    exact ⟨o.es.set (R.plain _ _ h2.1 r2) (by rw [List.length_set]; exact hl2), by rw [dAt_set_ne hji]; exact o.at_, o.ls, o.nmu, o.fr⟩
  · refine ⟨fun δ' xs' h' σ' H' l' _ o' => z.nx _ h' σ' H' l' (s1.trans o'.es.sm) ?_, fun d _ hd v H' _ s' r _ => z.rt d hd v H' (s1.trans s') r, fun _ _ h' => h'.elim, fun _ _ h' => h'.elim⟩
    have e' := o'.pub
    exact ⟨e'.mu, e.sm.trans (s1.trans e'.sm), e'.at_⟩
end
section
variable {X : Cx} {H0 : Hp} {pos : Pos} {a b c : Expr} {ta tb tc : DE}
/-- x, y, z = a, b, c of plain local names -/
def dPar3 (i j l : Nat) (ta tb tc : DE) : DTS := fun K δ => ta δ fun x => tb δ fun y => tc δ fun z => K.nx (((δ.set i (some x)).set j (some y)).set l (some z))
theorem pds_par3 (i j l : Nat) {x y z : Str} {px py pz pt : Pos} {kt k2 pt2} (ha : PD τ X H0 a ta) (hb : PD τ X H0 b tb) (hd : PD τ X H0 c tc) (hN : X.N.Nodup) (hc : X.calm = true := by rfl) (hi : X.N[i]? = some x := by rfl) (hj : X.N[j]? = some y := by rfl) (hl : X.N[l]? = some z := by rfl) (hij : i ≠ j := by decide) (hil : i ≠ l := by decide) (hjl : j ≠ l := by decide)
    (hx : X.env.scope.names.lookup x = some .local := by rfl) (hy : X.env.scope.names.lookup y = some .local := by rfl) (hz : X.env.scope.names.lookup z = some .local := by rfl)
    (hw : swappedStores [.Tuple [.Name x px, .Name y py, .Name z pz] kt pt] (.Tuple [a, b, c] k2 pt2) X.env = pure (some [x, y, z]) := by rfl)
    (hs : swapsWithSole [.Tuple [.Name x px, .Name y py, .Name z pz] kt pt] (.Tuple [a, b, c] k2 pt2) pos.line X.env = pure false := by rfl)
    (h1 : starEach (a :: [b, c]) X.env = (false, eval a X.env) :: starEach [b, c] X.env := by rfl) (h2 : starEach (b :: [c]) X.env = (false, eval b X.env) :: starEach [c] X.env := by rfl) (h3 : starEach (c :: []) X.env = (false, eval c X.env) :: starEach [] X.env := by rfl) :
    PDS τ X H0 (.Assign [.Tuple [.Name x px, .Name y py, .Name z pz] kt pt] (.Tuple [a, b, c] k2 pt2) pos) (dPar3 i j l ta tb tc) := by
  refine ⟨fun Mu => PS.imp (ps_par3 hc hN hi hj hl hij hil hjl hx hy hz (pa_cons (ha.pe Mu) (pa_cons (hb.pe Mu) (pa_cons (hd.pe Mu) pa_nil h3) h2) h1) hw hs) fun Z σ H _ ⟨hn, δ, K, e, h, z⟩ => ?_⟩
  have l1 : i < σ.length := by rw [hn]; exact (List.getElem?_eq_some_iff.mp hi).1
  have l2 : j < σ.length := by rw [hn]; exact (List.getElem?_eq_some_iff.mp hj).1
  have l3 : l < σ.length := by rw [hn]; exact (List.getElem?_eq_some_iff.mp hl).1
  refine ⟨δ, _, e, h, fun d1 h1 v1 H1 s1 r1 => ⟨δ, _, e.same s1, h1, fun d2 h2 v2 H2 s2 r2 => ⟨δ, _, e.same (s1.trans s2), h2, fun d3 h3 v3 H3 s3 r3 => ⟨v1, v2, v3, rfl, ?_⟩⟩⟩⟩
  have s := s1.trans (s2.trans s3)
  exact z.nx _ h3 _ H3 (by rw [List.length_set, List.length_set, List.length_set]; exact hn) s ((((e.same s).set (r1.same (s2.trans s3)) l1).set (r2.same s3) (by rw [List.length_set]; exact l2)).set r3 (by rw [List.length_set, List.length_set]; exact l3))
end
/-! ### _law_pick, _law_spring -/
def F_pick : FD := fun ds Q => match ds with
  | [.spr, .int m] => (1 ≤ m ∧ m.natAbs.log2 < 9000) ∧ ∀ r, 0 ≤ r → r < m → Q (.int r)
  | _ => False
/-- what the two defs of a spring are worth -/
def SpS (τ : Tbs) (K : PySem.W.Frag) : Sp := fun vs H Q _ => ∃ (Mu : Addr → Prop) (a : Addr) (ns : List Int) (j : Nat), MuT Mu H ∧ vs = [.ref a, .int j] ∧ SqL K H a (ns.map V.int) ∧ ∀ v H', Same τ H H' → R Mu H' v .spr → Q v H'
structure SF (τ : Tbs) (P : Program) (w : World) (K : PySem.W.Frag) (mg : Str → Option Value) (base : Heap) (k : Nat) : Prop where
  ex : ∃ f fd ps, FnOk P w K mg base CX0 k f fd ps (SpS τ K) ∧ mg "_law_spring" = some (.ref f) ∧ PySem.W.keepIn K (.ref f) = true ∧ Binds K fd ps []
section
variable {P : Program} {w : World} {K : PySem.W.Frag} {mg : Str → Option Value} {base : Heap}
theorem At.okPick {x : Str} {st : Stmt} {f : Addr} {fd : FuncData} {N ps : List Str} {k : Nat} (A : At K mg x st ps f fd) (S : FnScope N ps (defScope st)) (hn : ps.length = 2) (t : OTS)
    (hb : ∀ (cdv : Value) (A : Around) (outer : List Env) (s : Shared) (H H0 : Hp) (E : XK), Room k (A.deeper (envOfC x (defScope st) s.heap.objs.size f cdv)) → POws τ (cxOf CX0 P w K mg base N x (defScope st) f cdv A outer s H E).nox H0 0 (defBody st) t)
    (h : ∀ a m x y (Q : DK), 1 ≤ m → m.natAbs.log2 < 9000 → (∀ r, 0 ≤ r → r < m → Q (.int r)) → t { nx := fun _ _ => False, rt := fun d xs => (∃ x y, xs = [.int x, .int y]) ∧ plain d = true ∧ Q d } (startD N.length [.raw (.ref a), .int m]) [.int x, .int y]) : DF τ P w K mg base x (k + 1) 2 F_pick := by
  refine ⟨f, fd, ps, A.fn.ok S (fun vs H Q E hsp => ?_) (fun cdv A' outer s H vs Q E hr hsp => ?_), A.mg_, A.fn.kp, A.bd, st, A.fn, A.ps_⟩
  · obtain ⟨Mu, ds, K', mu, r, hl, _⟩ := hsp
    rw [r.length, hl, hn]
  · obtain ⟨Mu, ds, K', mu, r, hl, hF, q⟩ := hsp
    have hpl : ps.length ≤ N.length := by have := congrArg List.length S.pre; rw [List.length_take] at this; omega
    unfold F_pick at hF
    split at hF
    · rename_i m
      obtain ⟨⟨h1, h2⟩, hq⟩ := hF
      cases r with
      | cons r1 r2 =>
        cases r2 with
        | cons r2 r3 =>
          cases r3
          cases r2
          cases r1 with
          | @spr a ha hna =>
            have H0n : (fun b => if b = a then none else H b : Hp) a = none := if_pos rfl
            refine ⟨_, pss_redo ((hb cdv A' outer s H (fun b => if b = a then none else H b) E hr).pss Mu), a, ha, fun x y => ⟨?_, a, startD N.length [.raw (.ref a), .int m], [.int x, .int y], _, ?_, h a m x y K' h1 h2 hq, ?_⟩⟩
            · unfold L2.start
              show _ = N.length
              rw [List.length_append, List.length_map, List.length_replicate, List.length_cons, List.length_cons, List.length_nil]
              omega
            · have mu' : MuT (Own Mu a) (upd H a (.lst [.int x, .int y])) := fun b hb => by
                by_cases z : b = a
                · subst z; rw [upd_same]; exact ⟨_, rfl, fun _ z => nomatch z⟩
                · rw [upd_ne z]
                  exact mu b (hb.resolve_right z)
              have es := es_start (τ := τ) (N := N) (vs := [V.ref a, V.int m]) (ds := [.raw (.ref a), .int m]) mu' (.cons (.raw _) (.cons (.int _) .nil))
              have hid : ∀ b o, (fun b => if b = a then none else H b : Hp) b = some o → upd H a (.lst [.int x, .int y]) b = some o := fun b o e => by
                by_cases z : b = a
                · subst z; have e' : (none : Option HO) = some o := H0n.symm.trans e; cases e'
                · rw [upd_ne z]
                  exact (if_neg z).symm.trans e
              refine ⟨⟨es.mu, ⟨fun b o e _ => ?_, tab_of fun b o e _ => hid b o e⟩, es.at_⟩, rfl, ⟨_, upd_same, .cons (.int _) (.cons (.int _) .nil)⟩, hna, H0n⟩
              by_cases z : b = a
              · subst z; have e' : (none : Option HO) = some o := H0n.symm.trans e; cases e'
              · rw [upd_ne z]
                exact (if_neg z).symm.trans e
            · refine ⟨fun _ _ h' => h'.elim, fun d xs' hd v H' _ s' r ⟨vs', hv, rv⟩ => ?_, fun _ _ h' => h'.elim, fun _ _ h' => h'.elim⟩
              obtain ⟨⟨x', y', rfl⟩, pd, hd⟩ := hd
              have ev : vs' = [V.int x', V.int y'] := RA.ints (ns := [x', y']) rv
              subst ev
              refine ⟨⟨x', y', hv⟩, ?_⟩
              have sm : Same τ H (upd H' a (SprO a)) := by
                refine ⟨fun b o e nt => ?_, fun p m t => tab_own hv p m (s'.tab p m (tab_of (H := H) (fun b o e k => ?_) p m t))⟩
                rotate_left
                · by_cases z : b = a
                  · subst z
                    rw [ha] at e
                    cases e
                    rcases k with ⟨_, k⟩ | ⟨_, _, k⟩
                    · cases k
                    · exact absurd k codeO_spr
                  · exact (if_neg z).trans e
                by_cases z : b = a
                · subst z
                  rw [ha] at e
                  rw [upd_same, e]
                · rw [upd_ne z]
                  exact s'.app b o ((if_neg z).trans e) nt
              refine q d hd v _ sm (R.go (τ := τ) (Mu := Own Mu a) (H := H') ⟨fun b o e n _ => ?_, tab_own hv⟩ (fun b o _ n z => n (.inl z)) d v (R.plain d v pd r))
              by_cases z : b = a
              · subst z
                rw [hv] at e
                exact absurd (.inr rfl) (n ⟨_, (Option.some.inj e).symm⟩)
              · rw [upd_ne z]; exact e
    · exact hF.elim
theorem At.okSpring {st : Stmt} {f : Addr} {fd : FuncData} {N ps : List Str} {k : Nat} (A : At K mg "_law_spring" st ps f fd) (S : FnScope N ps (defScope st)) (hn : ps.length = 2) (t : Addr → List Int → DTS)
    (hb : ∀ (cdv : Value) (A : Around) (outer : List Env) (s : Shared) (H : Hp) (E : XK) (a : Addr) (ns : List Int), SqL K H a (ns.map V.int) → Room k (A.deeper (envOfC "_law_spring" (defScope st) s.heap.objs.size f cdv)) → PDSs τ (cxOf CX0 P w K mg base N "_law_spring" (defScope st) f cdv A outer s H E).nox H (defBody st) (t a ns))
    (h : ∀ a ns (j : Nat) (Q : DK), Q .spr → t a ns { nx := fun _ => Q .non, rt := Q } (startD N.length [.raw (.ref a), .int j])) : SF τ P w K mg base (k + 1) := by
  refine ⟨f, fd, ps, A.fn.ok S (fun vs H Q E hsp => ?_) (fun cdv A' outer s H vs Q E hr hsp => ?_), A.mg_, A.fn.kp, A.bd⟩
  · obtain ⟨Mu, a, ns, j, mu, rfl, hS, q⟩ := hsp
    rw [hn]; rfl
  · obtain ⟨Mu, a, ns, j, mu, rfl, hS, q⟩ := hsp
    have hpl : ps.length ≤ N.length := by have := congrArg List.length S.pre; rw [List.length_take] at this; omega
    refine ⟨_, (hb cdv A' outer s H E a ns hS hr).pss Mu, ?_, startD N.length [.raw (.ref a), .int j], _, es_start mu (.cons (.raw _) (.cons (.int _) .nil)), h a ns j (fun d => d = .spr) rfl, ?_⟩
    · unfold L2.start
      show _ = N.length
      rw [List.length_append, List.length_map, List.length_replicate, List.length_cons, List.length_cons, List.length_nil]
      omega
    · exact ⟨fun δ' h' σ' H' _ s' _ => (nomatch h'), fun d hd v H' s' r => q v H' s' (by rw [← hd]; exact r), fun _ h' _ _ _ _ _ => h'.elim, fun _ h' _ _ _ _ _ => h'.elim⟩
end
section
variable {X : Cx} {H0 : Hp} {pos : Pos} {a : Addr} {ns : List Int} {i j : Nat}
def dCallS (i j : Nat) (a : Addr) : DE := fun δ K => dAt δ i = some (.raw (.ref a)) ∧ ∃ k : Nat, dAt δ j = some (.int k) ∧ K .spr
theorem pd_callS (i j : Nat) (hS : SqL X.K H0 a (ns.map V.int)) {x y : Str} {p p1 p2 : Pos} {m k : Nat} (d : SF τ X.prog X.w X.K X.mg X.base m) (hr : Room k X.A) (hmk : m ≤ k := by decide) (hg : Gl X "_law_spring" := by rfl) (hN : X.N[i]? = some x := by rfl) (hv : Vis X.env.scope x := by first | exact Or.inl rfl | exact Or.inr (Or.inl rfl) | exact Or.inr (Or.inr rfl)) (hd : (x == ("__debug__" : Str)) = false := by decide)
    (hcd : (x == ("__classdict__" : Str)) = false := by decide) (hN2 : X.N[j]? = some y := by rfl) (hv2 : Vis X.env.scope y := by first | exact Or.inl rfl | exact Or.inr (Or.inl rfl) | exact Or.inr (Or.inr rfl)) (hd2 : (y == ("__debug__" : Str)) = false := by decide)
    (hcd2 : (y == ("__classdict__" : Str)) = false := by decide) (he : starEach [.Name x p1, .Name y p2] X.env = (false, eval (.Name x p1) X.env) :: starEach [.Name y p2] X.env := by rfl) (he2 : starEach [.Name y p2] X.env = (false, eval (.Name y p2) X.env) :: starEach [] X.env := by rfl) (hpl : (backTo pos (starEach [.Name y p2] X.env)).any (·.1) = false := by rfl) :
    PD τ X H0 (.Call (.Name "_law_spring" p) [.Name x p1, .Name y p2] [] pos) (dCallS i j a) := by
  obtain ⟨f, fd, ps, G, z1, z2, z3⟩ := d.ex
  refine ⟨fun Mu => PE.imp (pe_call (dvs := []) G (hr.mono hmk) hg z1 z2 z3 .nil pass0 (pa_cons (pe_var (i := i) hN hv hd hcd) (pa_cons (pe_var (i := j) hN2 hv2 hd2 hcd2) pa_nil he2) he) (by decide) he hpl) fun σ H Q ⟨δ, K, e, ⟨ha, n, hk, h⟩, q⟩ => ?_⟩
  obtain ⟨v, ev, r⟩ := e.at_ i _ (dAt_some ha)
  cases r
  obtain ⟨v2, ev2, r2⟩ := e.at_ j _ (dAt_some hk)
  cases r2
  exact ⟨_, ev, _, ev2, Mu, a, ns, n, e.mu, rfl, e.sm.seq hS, fun v H' s r => q _ h v H' s r⟩
variable {tg e1 e2 e3 b : Expr} {es : List Expr} {tda t : DA}
theorem dw_rangeC {Mu : Addr → Prop} {H1 : Hp} {lo c : Int} {n : Nat} : DW τ H1 Mu (Itc lo c n) ((List.range n).map fun i => D.int (lo + (i : Nat) * c)) := fun Mu' m H2 s => by
  refine ⟨fun i hi => (by have h : i < n := by simpa using hi
                          exact h), (by show n ≤ _; simp), fun i x H3 hi y => ?_⟩
  obtain ⟨e, y⟩ := y
  subst e
  subst y
  have hi' : i < n := by simpa using hi
  exact ⟨Same.refl _, _, by rw [List.getElem?_map, List.getElem?_range hi']; rfl, .int _⟩
/-- range(i, j, -1) -/
def dRange3 (t : DA) : DI := fun δ K => t δ fun ds => match ds with | [.int i, .int j, .int c] => (c = -1 ∧ -(2 ^ 62) ≤ i ∧ i < 2 ^ 62 ∧ -(2 ^ 62) ≤ j ∧ j < 2 ^ 62) ∧ K ((List.range (i - j).toNat).map fun k => D.int (i + (k : Nat) * (-1))) | _ => False
theorem pdi_range3 {p : Pos} (hg : Gl X "range") (hm : X.mg "range" = none) (ha : PDA τ X H0 [e1, e2, e3] tda) (hs : starEach [e1, e2, e3] X.env = (false, eval e1 X.env) :: starEach [e2, e3] X.env := by rfl) (hpl : (backTo pos (starEach [e2, e3] X.env)).any (·.1) = false := by rfl) : PDI τ X H0 tg (.Call (.Name "range" p) [e1, e2, e3] [] pos) (dRange3 tda) := by
  refine ⟨fun Mu => PI.imp (pi_range3 hg hm (ha.pa Mu) hs hpl) fun σ H RR ⟨δ, K, e, h, q⟩ => ⟨δ, _, e, h, fun ds hd vs H' s r => ?_⟩⟩
  split at hd
  · cases r with
    | cons r1 r2 =>
      cases r2 with
      | cons r2 r3 =>
        cases r3 with
        | cons r3 r4 =>
          cases r4
          cases r1
          cases r2
          cases r3
          obtain ⟨⟨rfl, h1, h2, h3, h4⟩, hk⟩ := hd
          exact ⟨_, _, _, _, rfl, RgC.neg h1 h2 h3 h4, q _ hk _ H' s dw_rangeC⟩
  · exact hd.elim
theorem pd_callK {x : Str} {p : Pos} {k n : Nat} {F : FD} (d : DF τ X.prog X.w X.K X.mg X.base x k n F) (hr : Room k X.A) (ha : PDA τ X H0 (b :: es) t) (hg : Gl X x := by rfl) (hdb : (x == ("__debug__" : Str)) = false := by decide)
    (he : starEach (b :: es) X.env = (false, eval b X.env) :: starEach es X.env := by rfl) (hpl : (backTo pos (starEach es X.env)).any (·.1) = false := by rfl) : PD τ X H0 (.Call (.Name x p) (b :: es) [] pos) (dCall n F t) := pd_callD d hr ha (Nat.le_refl _) hg hdb he hpl
end
section
variable {X : Cx} {H0 : Hp} {pos : Pos}
theorem pd_callD0 {x : Str} {p : Pos} {j k : Nat} {F : FD} (d : DF τ X.prog X.w X.K X.mg X.base x j 0 F) (hr : Room k X.A) (hjk : j ≤ k := by decide) (hg : Gl X x := by rfl) (hdb : (x == ("__debug__" : Str)) = false := by decide) : PD τ X H0 (.Call (.Name x p) [] [] pos) (dCall 0 F dNil) := by
  obtain ⟨f, fd, ps, G, a, b, c, _⟩ := d.ex
  refine ⟨fun Mu => PE.imp (pe_call0 (dvs := []) G (hr.mono hjk) hg a b c .nil pass0 hdb) fun σ H Q ⟨δ, K, e, h, q⟩ => ⟨Mu, [], K, e.mu, RA.nil, h.1, h.2, q⟩⟩
end
/-- what is wanted of the law -/
def SpLaw (K : PySem.W.Frag) : Sp := fun vs H Q _ => ∃ (a : Addr) (ns : List Int), vs = [.ref a] ∧ SqL K H a (ns.map V.int) ∧ ns.length ≤ 63 ∧ ∀ H', Q (.bl true) H'
section
variable {P : Program} {w : World} {K : PySem.W.Frag} {mg : Str → Option Value} {base : Heap}
theorem At.bot {x : Str} {st : Stmt} {f : Addr} {fd : FuncData} {N ps : List Str} {k n : Nat} (A : At K mg x st ps f fd) (S : FnScope N ps (defScope st)) (hn : ps.length = n) : DF τ P w K mg base x (k + 1) n (fun _ _ => False) :=
  A.ok S hn (fun _ _ => False) (fun _ _ _ _ _ _ _ => ⟨fun Mu => PSs.imp ⟨fun pins s σ H Z I h => h.elim⟩ fun Z σ H _ ⟨_, _, _, _, h, _⟩ => h⟩) fun _ _ _ h => h
theorem At.okLaw {st : Stmt} {f : Addr} {fd : FuncData} {N ps : List Str} {k : Nat} (A : At K mg "law" st ps f fd) (S : FnScope N ps (defScope st)) (hn : ps.length = 1) (t : Addr → List Int → DTS)
    (hb : ∀ (cdv : Value) (A : Around) (outer : List Env) (s : Shared) (H : Hp) (E : XK) (a : Addr) (ns : List Int), SqL K H a (ns.map V.int) → Room k (A.deeper (envOfC "law" (defScope st) s.heap.objs.size f cdv)) → PDSs τ (cxOf CX0 P w K mg base N "law" (defScope st) f cdv A outer s H E).nox H (defBody st) (t a ns))
    (h : ∀ a ns (Q : DK), ns.length ≤ 63 → Q (.bl true) → t a ns { nx := fun _ => Q .non, rt := Q } (startD N.length [.raw (.ref a)])) : FnOk P w K mg base CX0 (k + 1) f fd ps (SpLaw K) := by
  refine A.fn.ok S (fun vs H Q E hsp => ?_) (fun cdv A' outer s H vs Q E hr hsp => ?_)
  · obtain ⟨a, ns, rfl, hS, _⟩ := hsp
    rw [hn]; rfl
  · obtain ⟨a, ns, rfl, hS, hl, q⟩ := hsp
    have hpl : ps.length ≤ N.length := by have := congrArg List.length S.pre; rw [List.length_take] at this; omega
    refine ⟨_, (hb cdv A' outer s H E a ns hS hr).pss (fun _ => False), ?_, startD N.length [.raw (.ref a)], _, es_start (fun _ z => z.elim) (.cons (.raw _) .nil), h a ns (fun d => d = .bl true) hl rfl, ?_⟩
    · unfold L2.start
      show _ = N.length
      rw [List.length_append, List.length_map, List.length_replicate, List.length_cons, List.length_nil]
      omega
    · exact ⟨fun δ' h' σ' H' _ s' _ => (nomatch h'), fun d hd v H' s' r => by subst hd; cases r; exact q H', fun _ h' _ _ _ _ _ => h'.elim, fun _ h' _ _ _ _ _ => h'.elim⟩
end
end Gf
namespace Gf
open PySem PySem.Spec PyProof.Rows L2
variable {τ : Tbs}
/-! ### what the program computes, plainly -/
abbrev Mint := List (Int × Int)
def mintD (m : Mint) : D := .tup (m.map pairD)
def intsT (ns : List Int) : D := .tup (ns.map .int)
def intsL (ns : List Int) : D := .lst (ns.map .int)
def within (d : D) (lo hi : Int) : Bool := match d with | .int i => decide (lo ≤ i) && decide (i ≤ hi) | _ => false
def wide (d : D) (lo hi : Int) : Bool := match d with | .tup xs => decide (lo ≤ (xs.length : Nat)) && decide ((xs.length : Nat) ≤ hi) | _ => false
def coinB (d : D) : Bool := match d with
  | .tup [x, y] => within x 0 3 && (match x with | .int a => within y (if a > 0 then -5 else 2) 9 | _ => false)
  | _ => false
def coinOf (d : D) : Option (Int × Int) := match d with | .tup [.int a, .int b] => some (a, b) | _ => none
def okCoin (p : Int × Int) : Bool := decide (0 ≤ p.1) && decide (p.1 ≤ 3) && decide ((if p.1 > 0 then -5 else 2) ≤ p.2) && decide (p.2 ≤ 9)
def ltP2 (p q : Int × Int) : Bool := decide (p.1 < q.1 ∨ (p.1 = q.1 ∧ p.2 < q.2))
def risingP : Mint → Bool
  | x :: y :: r => ltP2 x y && risingP (y :: r)
  | _ => true
def okMint (m : Mint) : Bool := decide (1 ≤ m.length) && decide (m.length ≤ 4) && m.all okCoin && risingP m
def coinsOf : List D → Option Mint
  | [] => some []
  | d :: ds => match coinOf d, coinsOf ds with | some p, some ps => some (p :: ps) | _, _ => none
def fitB (d : D) : Bool := match d with
  | .tup xs => (match coinsOf xs with | some m => okMint m | none => false)
  | _ => false
def wl (m : Mint) (n : Int) : List Int := 1 :: m.map fun p => p.1 * n + p.2
def rising : List Int → Bool
  | x :: y :: r => decide (x < y) && rising (y :: r)
  | _ => true
def struckB (m : Mint) (n : Int) : Bool := rising (wl m n)
def givG : List Int → Int → List Int → List Int
  | [], _, f => f
  | w :: ws, a, f => givG ws (a % w) (a / w :: f)
def given (ws : List Int) (a : Int) : List Int := givG ws.reverse a []
def mostR : List Int → Int → Int
  | [], a => a
  | [_], a => a
  | w :: r, a => if a / w > 0 then (if a / w - 1 + mostR r (w - 1) > a / w + mostR r (a % w) then a / w - 1 + mostR r (w - 1) else a / w + mostR r (a % w)) else a / w + mostR r (a % w)
def mostB (ws : List Int) (a : Int) : Int := mostR ws.reverse a
def minL : List Int → Int
  | [] => 0
  | [x] => x
  | x :: r => if x ≤ minL r then x else minL r
def fewStep (ws : List Int) (found : List Int) (here : Int) : Int := 1 + minL ((ws.filter fun w => decide (w ≤ here)).map fun w => found.getD (here - w).toNat 0)
def fewG (ws : List Int) : Nat → List Int
  | 0 => [0]
  | k + 1 => let f := fewG ws k; f ++ [fewStep ws f ((k + 1 : Nat) : Int)]
def dot : List Int → List Int → Int
  | a :: x, b :: y => a * b + dot x y
  | _, _ => 0
def coinsAt (some : List Int) (down : Nat) : List Int := List.replicate down 0 ++ [some.getD down 0 + 1] ++ some.drop (down + 1)
def othersAt (ws : List Int) (k : Nat) : List (Int × Int) := (List.range k).map fun down => (dot (coinsAt (given ws (ws.getD k 0 - 1)) down) ws, (coinsAt (given ws (ws.getD k 0 - 1)) down).sum)
def others (ws : List Int) : List (Int × Int) := (List.range (ws.length - 1)).flatMap fun k => othersAt ws (k + 1)
def badL (ws : List Int) : List (Int × Int) := (others ws).filter fun p => decide (p.2 < (given ws p.1).sum)
def badB (ws : List Int) : Option (Int × Int) := match badL ws with
  | [] => none
  | p :: r => some ((minP p r).1, (given ws (minP p r).1).sum - (minP p r).2)
def rightB (m : Mint) (n : Int) : Bool := struckB m n && (badB (wl m n)).isNone
def badOf (m : Mint) (n : Int) : Option (Int × Int) := if struckB m n = true then badB (wl m n) else none
def optD {α : Type} (f : α → D) : Option α → D | none => .non | some x => f x
def maxL : List Int → Int
  | [] => 0
  | [x] => x
  | x :: r => if maxL r ≤ x then x else maxL r
def sizeOf' (m : Mint) : Nat := (maxL (1 :: (m.filter fun p => decide (p.1 = 0)).map (·.2))).toNat
/-- the shortest part that repeats -/
def shortL {α : Type} [BEq α] (xs : List α) : List α := match (List.range (xs.length - 1)).find? fun k => xs.length % (k + 1) == 0 && (List.replicate (xs.length / (k + 1)) (xs.take (k + 1))).flatten == xs with
  | some k => xs.take (k + 1)
  | none => xs
/-- early, again, both backward: what is early alike is taken in -/
def rollR {α β : Type} (same : β → Nat → α → Bool) : List α → List β → List α × List β
  | [], g => ([], g)
  | e :: es, g => match g with
    | [] => (e :: es, [])
    | l :: gs => if same l (es.length + 1) e = true then rollR same es (gs ++ [l]) else (e :: es, l :: gs)
def steadyT (row : List Bool) (size : Nat) : List Bool × List Bool :=
  let r := rollR (fun l _ e => e == l) (row.take (row.length - size)).reverse (shortL (row.drop (row.length - size))).reverse
  (r.1.reverse, r.2.reverse)
abbrev Form := Int × Int × Int
def formD (f : Form) : D := .tup [.int f.1, .int f.2.1, .int f.2.2]
def gcdG : Nat → Int → Int → Int
  | 0, a, _ => a
  | k + 1, a, b => if b = 0 then a else gcdG k b (a % b)
def divisorB (a b : Int) : Int := ((Nat.gcd a.natAbs b.natAbs : Nat) : Int)
def lowestB (t p b : Int) : Form := let s := divisorB (divisorB t p) b; (t / s, p / s, b / s)
def formBy (n : Int) (one other : Option Int) (size : Int) : Option Form := match one, other with
  | some x, some y => some (lowestB (y - x) (x * size - (y - x) * n) size)
  | _, _ => none
def isTold (f : Option Form) (n : Int) (x : Option Int) : Bool := match f, x with
  | some g, some v => decide (g.1 * n + g.2.1 = v * g.2.2)
  | none, none => true
  | _, _ => false
def steadyN (row : List (Option Int)) (size : Nat) : List (Option Int) × List (Option Form) :=
  let b := row.length - 2 * size
  let g := (List.range size).map fun i => formBy ((b + i + 1 : Nat) : Int) (row.getD (b + i) none) (row.getD (b + i + size) none) (size : Nat)
  let r := rollR (fun l k e => isTold l (k : Nat) e) (row.take b).reverse (shortL g).reverse
  (r.1.reverse, r.2.reverse)
def rowT (f : Int → Bool) (k : Nat) : List Bool := (List.range k).map fun i => f ((i + 1 : Nat) : Int)
def rightRow (m : Mint) : List Bool := rowT (rightB m) (1000 + sizeOf' m)
def alwaysB (m : Mint) : Bool := (List.range (1000 + sizeOf' m)).all fun i => !(struckB m ((i + 1 : Nat) : Int)) || rightB m ((i + 1 : Nat) : Int)
def badRow (m : Mint) (which : Bool) : List (Option Int) := (List.range (1000 + 2 * sizeOf' m)).map fun i => (badOf m ((i + 1 : Nat) : Int)).map fun p => if which then p.2 else p.1
def countBy (m : Mint) (s : Int × Int) (n : Int) : Option Int := if s.1 * n + s.2 < 0 ∨ struckB m n = false then none else some (given (wl m n) (s.1 * n + s.2)).sum
def countRow (m : Mint) (s : Int × Int) : List (Option Int) := (List.range (1000 + 2 * sizeOf' m)).map fun i => countBy m s ((i + 1 : Nat) : Int)
def partingB (m k : Mint) : Option Int := ((List.range (1000 + sizeOf' m * sizeOf' k / Nat.gcd (sizeOf' m) (sizeOf' k))).find? fun i => rightB m ((i + 1 : Nat) : Int) != rightB k ((i + 1 : Nat) : Int)).map fun i => ((i + 1 : Nat) : Int)
def goodB (m : Mint) : Bool := okMint m && alwaysB m
def lessB (m : Mint) (c : Nat) : Mint := m.take c ++ m.drop (c + 1)
def leavableB (m : Mint) : List Nat := (List.range (if alwaysB m = true then m.length else 0)).filter fun c => goodB (lessB m c)
def insP (p : Int × Int) : Mint → Mint
  | [] => [p]
  | q :: r => if leP p q = true then p :: q :: r else q :: insP p r
def enumM : Nat → Mint → List (Nat × (Int × Int))
  | _, [] => []
  | i, p :: m => (i, p) :: enumM (i + 1) m
def addableB (m menu : Mint) : List Nat := ((enumM 0 menu).filter fun q => !(m.any fun z => z == q.2) && goodB (insP q.2 m)).map (·.1)
abbrev Sight := Int × List Int
def sightD (s : Sight) : D := .tup [.int s.1, intsT s.2]
def goesB (m : Mint) (seen : List Sight) (n : Int) : Bool := struckB m n && seen.all fun s => given (wl m n) s.1 == s.2
def toldB (m : Mint) (seen : List Sight) : List Bool × List Bool := steadyT (rowT (goesB m seen) 339) 1
def truthsD (r : List Bool × List Bool) : D := .tup [.tup (r.1.map .bl), .tup (r.2.map .bl)]
def formsD (r : List (Option Int) × List (Option Form)) : D := .tup [.tup (r.1.map (optD .int)), .tup (r.2.map (optD formD))]
end Gf
namespace Gf
open PySem PySem.Spec PyProof.Rows L2
variable {τ : Tbs}
theorem flat_plain {d : D} (h : flat d = true) : plainD d := by
  cases d <;> first | (intro z; cases z; done) | (rw [flat] at h; cases h)
theorem flats_mem : ∀ {xs : List D} {x : D}, flats xs = true → x ∈ xs → flat x = true
  | y :: ys, x, h, m => by
    rw [flats, Bool.and_eq_true] at h
    rcases List.mem_cons.mp m with e | m
    · rw [e]; exact h.1
    · exact flats_mem h.2 m
theorem flats_map {α : Type} {f : α → D} (hf : ∀ a, flat (f a) = true) : ∀ l : List α, flats (l.map f) = true
  | [] => rfl
  | a :: l => by rw [List.map_cons, flats, hf a, flats_map hf l]; rfl
theorem deeps_map {α : Type} {f : α → D} {k : Nat} (hf : ∀ a, deep (f a) ≤ k) : ∀ l : List α, deeps (l.map f) ≤ k
  | [] => by rw [List.map_nil, deeps]; omega
  | a :: l => by rw [List.map_cons, deeps]; have := hf a; have := deeps_map hf l; omega
theorem flat_int (i : Int) : flat (.int i) = true := by rw [flat]
theorem flat_bl (b : Bool) : flat (.bl b) = true := by rw [flat]
theorem flat_pair (p : Int × Int) : flat (pairD p) = true := by simp [pairD, flat, flats]
theorem deep_pair (p : Int × Int) : deep (pairD p) ≤ 1 := by simp [pairD, deep, deeps]
theorem flat_mint (m : Mint) : flat (mintD m) = true := by unfold mintD; rw [flat]; exact flats_map flat_pair m
theorem cmp_int (i : Int) : cmpb (.int i) := ⟨flat_int i, by rw [deep]; omega; all_goals exact fun _ z => nomatch z⟩
theorem cmp_bl (b : Bool) : cmpb (.bl b) := ⟨flat_bl b, by rw [deep]; omega; all_goals exact fun _ z => nomatch z⟩
theorem cmp_lst {xs : List D} (h : flats xs = true) (h2 : deeps xs ≤ 59) : cmpb (.lst xs) := ⟨by rw [flat]; exact h, by rw [deep]; omega⟩
theorem cmp_tup {xs : List D} (h : flats xs = true) (h2 : deeps xs ≤ 59) : cmpb (.tup xs) := ⟨by rw [flat]; exact h, by rw [deep]; omega⟩
theorem eqD_int (i j : Int) : eqD (.int i) (.int j) = decide (i = j) := by
  unfold eqD
  simp only [toPy, PyData.eqv]
  by_cases h : i = j
  · subst h; simp
  · rw [decide_eq_false h]; simpa using h
theorem eqD_bl (i j : Bool) : eqD (.bl i) (.bl j) = (i == j) := by
  unfold eqD
  simp only [toPy, PyData.eqv]
theorem eqD_lst (xs ys : List D) : eqD (.lst xs) (.lst ys) = PyData.eqvAll (toPys xs) (toPys ys) := by unfold eqD; simp only [toPy, PyData.eqv]
theorem eqD_tup (xs ys : List D) : eqD (.tup xs) (.tup ys) = PyData.eqvAll (toPys xs) (toPys ys) := by unfold eqD; simp only [toPy, PyData.eqv]
theorem eqvAll_cons (x y : D) (xs ys : List D) : PyData.eqvAll (toPys (x :: xs)) (toPys (y :: ys)) = (eqD x y && PyData.eqvAll (toPys xs) (toPys ys)) := by
  unfold eqD
  rw [toPys, toPys, PyData.eqvAll]
theorem eqvAll_nil : PyData.eqvAll (toPys []) (toPys []) = true := by rw [toPys, PyData.eqvAll]
theorem eqvAll_nc (y : D) (ys : List D) : PyData.eqvAll (toPys []) (toPys (y :: ys)) = false := by rw [toPys, toPys]; simp [PyData.eqvAll]
theorem eqvAll_cn (y : D) (ys : List D) : PyData.eqvAll (toPys (y :: ys)) (toPys []) = false := by rw [toPys, toPys]; simp [PyData.eqvAll]
/-- lists of things that are told apart -/
theorem eqvAll_map {α : Type} [BEq α] {f : α → D} (hf : ∀ a b, eqD (f a) (f b) = (a == b)) : ∀ l m : List α, PyData.eqvAll (toPys (l.map f)) (toPys (m.map f)) = (l == m)
  | [], [] => by rw [List.map_nil, eqvAll_nil]; rfl
  | [], b :: m => by rw [List.map_nil, List.map_cons, eqvAll_nc]; rfl
  | a :: l, [] => by rw [List.map_nil, List.map_cons, eqvAll_cn]; rfl
  | a :: l, b :: m => by rw [List.map_cons, List.map_cons, eqvAll_cons, hf, eqvAll_map hf l m]; rfl
theorem eqD_pair (p q : Int × Int) : eqD (pairD p) (pairD q) = (p == q) := by
  unfold pairD
  rw [eqD_tup, eqvAll_cons, eqvAll_cons, eqvAll_nil, eqD_int, eqD_int, Bool.and_true]
  show _ = (p.1 == q.1 && p.2 == q.2)
  rfl
/-! ### loops over lists -/
theorem lcW_ok {g : DG} {tt : DT} {te : DE} {δ : DSt} {K : DK} {α : Type} (emb : α → D) (f : α → Option D) : ∀ (xs : List α) (acc : List D), (∀ x ∈ xs, ∀ (Kt : DK) (Kf : Prop), (match f x with | some y => Kt y | none => Kf) → g (emb x) δ fun δ2 => tt δ2 fun b => if b = true then te δ2 Kt else Kf) →
    acc.length + xs.length ≤ sizeLine → K (.lst (acc ++ xs.filterMap f)) → lcW g tt te δ K (xs.map emb) acc
  | [], acc, _, _, k => by rw [List.map_nil, lcW]; simpa using k
  | x :: xs, acc, h, hl, k => by
    rw [List.map_cons, lcW]
    rw [List.length_cons] at hl
    refine h x List.mem_cons_self _ _ ?_
    cases e : f x with
    | none =>
      rw [List.filterMap_cons, e] at k
      exact lcW_ok emb f xs acc (fun y m => h y (List.mem_cons_of_mem _ m)) (by omega) k
    | some y =>
      rw [List.filterMap_cons, e] at k
      exact ⟨by omega, lcW_ok emb f xs (acc ++ [y]) (fun y m => h y (List.mem_cons_of_mem _ m)) (by rw [List.length_append, List.length_singleton]; omega) (by rw [List.append_assoc]; exact k)⟩
theorem lcW_map {g : DG} {te : DE} {δ : DSt} {K : DK} {α : Type} (emb : α → D) (f : α → D) (xs : List α) (h : ∀ x ∈ xs, ∀ (Kt : DK), Kt (f x) → g (emb x) δ fun δ2 => te δ2 Kt) (hl : xs.length ≤ sizeLine) (k : K (.lst (xs.map f))) : lcW g dYes te δ K (xs.map emb) [] := by
  refine lcW_ok emb (fun x => some (f x)) xs [] (fun x m Kt Kf q => ?_) (by simpa using hl) ?_
  · have := h x m Kt q
    simpa [dYes] using this
  · have e : List.filterMap (fun x => some (f x)) xs = xs.map f := by
      rw [← List.filterMap_eq_map]; rfl
    rw [List.nil_append, e]
    exact k
def upFrom : Int → Nat → List Int
  | _, 0 => []
  | lo, k + 1 => lo :: upFrom (lo + 1) k
theorem upFrom_range (lo : Int) (k : Nat) : (List.range k).map (fun i => lo + ((i : Nat) : Int)) = upFrom lo k := by
  induction k generalizing lo with
  | zero => rfl
  | succ k ih =>
    rw [List.range_succ_eq_map, List.map_cons, List.map_map, upFrom, ← ih (lo + 1)]
    congr 1
    · simp
    · refine List.map_congr_left fun i _ => ?_
      show lo + ((i + 1 : Nat) : Int) = lo + 1 + (i : Int)
      omega
theorem range_up (lo : Int) (k : Nat) : (List.range k).map (fun i => D.int (lo + ((i : Nat) : Int))) = (upFrom lo k).map D.int := by
  rw [← upFrom_range, List.map_map]
  rfl
theorem upFrom_len (lo : Int) (k : Nat) : (upFrom lo k).length = k := by rw [← upFrom_range]; simp
theorem upFrom_mem {lo x : Int} {k : Nat} (h : x ∈ upFrom lo k) : lo ≤ x ∧ x < lo + k := by
  rw [← upFrom_range] at h
  obtain ⟨i, hi, e⟩ := List.mem_map.mp h
  have := List.mem_range.mp hi
  omega
theorem at0 {α : Type} (x : α) (xs : List α) : L2.atI (x :: xs) 0 = some x := by
  have : L2.atI (x :: xs) ((0 : Nat) : Int) = some x := atI_nat rfl
  exact this
theorem at1 {α : Type} (x y : α) (xs : List α) : L2.atI (x :: y :: xs) 1 = some y := by
  have : L2.atI (x :: y :: xs) ((1 : Nat) : Int) = some y := atI_nat rfl
  exact this
theorem at2 {α : Type} (x y z : α) (xs : List α) : L2.atI (x :: y :: z :: xs) 2 = some z := by
  have : L2.atI (x :: y :: z :: xs) ((2 : Nat) : Int) = some z := atI_nat rfl
  exact this
theorem cut_from {α : Type} (xs : List α) (k : Nat) : cut xs (some (k : Nat)) none = xs.drop k := by
  unfold cut
  rw [HT.sIx_nat, HT.sIx_none]
  by_cases h : k ≤ xs.length
  · rw [Nat.min_eq_left h, List.take_of_length_le]
    rw [List.length_drop]
    omega
  · rw [Nat.min_eq_right (by omega), List.drop_of_length_le (i := xs.length) (Nat.le_refl _), List.drop_of_length_le (by omega)]
    simp
theorem cut_to {α : Type} (xs : List α) (k : Nat) : cut xs none (some (k : Nat)) = xs.take k := by
  unfold cut
  rw [HT.sIx_nat, HT.sIx_none, List.drop_zero]
  by_cases h : k ≤ xs.length
  · rw [Nat.min_eq_left h]; rfl
  · rw [Nat.min_eq_right (by omega), List.take_of_length_le (by omega), List.take_of_length_le (by omega)]
theorem cut_toNeg {α : Type} (xs : List α) (k : Nat) (h : 0 < k) : cut xs none (some (-(k : Int))) = xs.take (xs.length - k) := by
  unfold cut
  rw [HT.sIx_none, List.drop_zero]
  have e : HT.sIx xs.length xs.length (some (-(k : Int))) = xs.length - k := by
    show (if (-(k : Int)) < 0 then ((-(k : Int)) + (xs.length : Int)).toNat else _) = _
    rw [if_pos (by omega)]
    omega
  rw [e]
  rfl
theorem cut_fromNeg {α : Type} (xs : List α) (k : Nat) (h : 0 < k) : cut xs (some (-(k : Int))) none = xs.drop (xs.length - k) := by
  unfold cut
  rw [HT.sIx_none]
  have e : HT.sIx xs.length 0 (some (-(k : Int))) = xs.length - k := by
    show (if (-(k : Int)) < 0 then ((-(k : Int)) + (xs.length : Int)).toNat else _) = _
    rw [if_pos (by omega)]
    omega
  rw [e, List.take_of_length_le]
  rw [List.length_drop]
  omega
theorem atI_neg1 {α : Type} (xs : List α) (x : α) (h : xs.getLast? = some x) : L2.atI xs (-1) = some x := by
  obtain ⟨ys, rfl⟩ := List.getLast?_eq_some_iff.mp h
  exact atI_last _ _
end Gf
namespace Gf
open PySem PySem.Spec PyProof.Rows L2
theorem strict_ext {α : Type} {r : α → α → Prop} (as : ∀ a b, r a b → r b a → False) : ∀ l m : List α, l.Pairwise r → m.Pairwise r → (∀ x, x ∈ l ↔ x ∈ m) → l = m
  | [], [], _, _, _ => rfl
  | [], b :: m, _, _, h => absurd ((h b).mpr List.mem_cons_self) (by simp)
  | a :: l, [], _, _, h => absurd ((h a).mp List.mem_cons_self) (by simp)
  | a :: l, b :: m, hl, hm, h => by
    obtain ⟨la, hl'⟩ := List.pairwise_cons.mp hl
    obtain ⟨mb, hm'⟩ := List.pairwise_cons.mp hm
    have e : a = b := by
      rcases List.mem_cons.mp ((h a).mp List.mem_cons_self) with e | h1
      · exact e
      · rcases List.mem_cons.mp ((h b).mpr List.mem_cons_self) with e | h2
        · exact e.symm
        · exact (as _ _ (mb a h1) (la b h2)).elim
    subst e
    congr 1
    refine strict_ext as l m hl' hm' fun x => ⟨fun hx => ?_, fun hx => ?_⟩
    · rcases List.mem_cons.mp ((h x).mp (List.mem_cons_of_mem _ hx)) with e | h1
      · subst e; exact (as _ _ (la _ hx) (la _ hx)).elim
      · exact h1
    · rcases List.mem_cons.mp ((h x).mpr (List.mem_cons_of_mem _ hx)) with e | h1
      · subst e; exact (as _ _ (mb _ hx) (mb _ hx)).elim
      · exact h1
theorem ltP2_iff (x y : Int × Int) : ltP2 x y = true ↔ (leP x y = true ∧ x ≠ y) := by
  obtain ⟨x1, x2⟩ := x
  obtain ⟨y1, y2⟩ := y
  unfold ltP2 leP
  simp only [decide_eq_true_eq, ne_eq, Prod.mk.injEq]
  omega
theorem risingP_iff : ∀ m : Mint, risingP m = true ↔ m.Pairwise fun x y => leP x y = true ∧ x ≠ y
  | [] => by simp [risingP]
  | [x] => by simp [risingP]
  | x :: y :: r => by
    have ih := risingP_iff (y :: r)
    rw [risingP, Bool.and_eq_true, ih, ltP2_iff, List.pairwise_cons (l := y :: r)]
    refine and_congr_left fun h => ⟨fun h1 z hz => ?_, fun h1 => h1 y List.mem_cons_self⟩
    rcases List.mem_cons.mp hz with e | hz
    · rw [e]; exact h1
    · have h2 := (List.pairwise_cons.mp h).1 z hz
      obtain ⟨x1, x2⟩ := x
      obtain ⟨y1, y2⟩ := y
      obtain ⟨z1, z2⟩ := z
      unfold leP at *
      simp only [decide_eq_true_eq, ne_eq, Prod.mk.injEq] at *
      omega
theorem ltS_asymm (a b : Int × Int) (h1 : leP a b = true ∧ a ≠ b) (h2 : leP b a = true ∧ b ≠ a) : False := by
  obtain ⟨x1, x2⟩ := a
  obtain ⟨y1, y2⟩ := b
  unfold leP at *
  simp only [decide_eq_true_eq, ne_eq, Prod.mk.injEq] at *
  omega
/-- list(m) == sorted(set(m)) -/
theorem sorted_same (m qs : Mint) (h1 : qs.Pairwise fun x y => leP x y = true ∧ x ≠ y) (h2 : ∀ p, p ∈ qs ↔ p ∈ m) : (m == qs) = risingP m := by
  cases h : risingP m with
  | true =>
    have := strict_ext ltS_asymm m qs ((risingP_iff m).mp h) h1 fun x => (h2 x).symm
    subst this
    exact beq_self_eq_true m
  | false =>
    rw [beq_eq_false_iff_ne]
    intro e
    subst e
    rw [(risingP_iff m).mpr h1] at h
    cases h
theorem coinB_of {d : D} (h : coinB d = true) : ∃ p, d = pairD p ∧ coinOf d = some p ∧ okCoin p = true := by
  unfold coinB at h
  split at h
  · rename_i x y
    rw [Bool.and_eq_true] at h
    obtain ⟨h1, h2⟩ := h
    split at h2
    · rename_i a
      cases y with
      | int b =>
        refine ⟨(a, b), rfl, rfl, ?_⟩
        have h1' : (decide (0 ≤ a) && decide (a ≤ 3)) = true := h1
        have h2' : (decide ((if a > 0 then (-5 : Int) else 2) ≤ b) && decide (b ≤ 9)) = true := h2
        show (decide (0 ≤ a) && decide (a ≤ 3) && decide ((if a > 0 then (-5 : Int) else 2) ≤ b) && decide (b ≤ 9)) = true
        rw [h1', Bool.true_and]
        exact h2'
      | _ => cases h2
    · cases h2
  · cases h
theorem coinB_pair (p : Int × Int) : coinB (pairD p) = okCoin p := by
  unfold pairD coinB okCoin within
  simp only [Bool.and_assoc]
theorem coinOf_some {d : D} {p : Int × Int} (h : coinOf d = some p) : d = pairD p := by
  unfold coinOf at h
  split at h
  · cases h; rfl
  · cases h
theorem coinsOf_some : ∀ {xs : List D} {m : Mint}, coinsOf xs = some m → xs = m.map pairD
  | [], m, h => by
    cases h; rfl
  | d :: ds, m, h => by
    unfold coinsOf at h
    split at h
    · rename_i p ps e1 e2
      cases h
      rw [List.map_cons, coinOf_some e1, coinsOf_some e2]
    · cases h
theorem coinsOf_map : ∀ m : Mint, coinsOf (m.map pairD) = some m
  | [] => rfl
  | p :: m => by
    rw [List.map_cons]
    unfold coinsOf
    rw [coinsOf_map m]
    rfl
theorem coins_all : ∀ {xs : List D}, (∀ d ∈ xs, coinB d = true) → ∃ m : Mint, xs = m.map pairD ∧ m.all okCoin = true
  | [], _ => ⟨[], rfl, rfl⟩
  | d :: ds, h => by
    obtain ⟨p, e, _, o⟩ := coinB_of (h d List.mem_cons_self)
    obtain ⟨m, e2, o2⟩ := coins_all fun x hx => h x (List.mem_cons_of_mem _ hx)
    exact ⟨p :: m, by rw [List.map_cons, ← e, e2], by rw [List.all_cons, o, o2]; rfl⟩
theorem fitB_tup (m : Mint) : fitB (mintD m) = okMint m := by
  unfold mintD fitB
  simp only [coinsOf_map]
theorem fitB_some {d : D} (h : fitB d = true) : ∃ m, d = mintD m ∧ okMint m = true := by
  unfold fitB at h
  split at h
  · split at h
    · rename_i m e
      exact ⟨m, by rw [coinsOf_some e]; rfl, h⟩
    · cases h
  · cases h
theorem zip_pairs : ∀ (xs ys : List Int), ((xs.map D.int).zip (ys.map D.int)).map (fun p => D.tup [p.1, p.2]) = (xs.zip ys).map pairD
  | [], _ => by simp
  | _ :: _, [] => by simp
  | x :: xs, y :: ys => by
    rw [List.map_cons, List.map_cons, List.zip_cons_cons, List.zip_cons_cons, List.map_cons, List.map_cons, zip_pairs xs ys]
    rfl
theorem rising_zip : ∀ ws : List Int, ((ws.zip (ws.drop 1)).map fun p => decide (p.1 < p.2)).all id = rising ws
  | [] => rfl
  | [_] => rfl
  | x :: y :: r => by
    have ih := rising_zip (y :: r)
    rw [rising, ← ih]
    rfl
theorem log_ok {w : Int} (h0 : 0 < w) (h1 : w ≤ 10 ^ 60) : w.natAbs.log2 < 9000 := by
  have h2 : w.natAbs < 2 ^ 9000 := by
    have e : w.natAbs ≤ 10 ^ 60 := by
      have : ((w.natAbs : Nat) : Int) ≤ ((10 ^ 60 : Nat) : Int) := by
        rw [Int.natAbs_of_nonneg (by omega)]
        exact h1
      exact Int.ofNat_le.mp this
    have e2 : (10 : Nat) ^ 60 < 2 ^ 200 := by decide +kernel
    have e3 : (2 : Nat) ^ 200 < 2 ^ 9000 := Nat.pow_lt_pow_right (by decide) (by decide)
    exact Nat.lt_of_le_of_lt e (Nat.lt_trans e2 e3)
  exact (Nat.log2_lt (by omega)).mpr h2
theorem small_size {n : Nat} (h : n ≤ 100000) : n ≤ sizeLine := by rw [sizeLine_eq]; omega
/-- the worths that are divided by -/
def posW (ws : List Int) : Prop := ∀ w ∈ ws, 0 < w ∧ w ≤ 10 ^ 60
theorem divOk {w a : Int} (h : 0 < w ∧ w ≤ 10 ^ 60) : CDivW a w := ⟨h.1, log_ok h.1 h.2⟩
theorem given_len : ∀ (ws : List Int) (a : Int) (f : List Int), (givG ws a f).length = ws.length + f.length
  | [], _, f => by simp [givG]
  | w :: ws, a, f => by rw [givG, given_len ws]; simp; omega
theorem givG_app : ∀ (ws : List Int) (a : Int) (f : List Int), givG ws a f = givG ws a [] ++ f
  | [], _, f => by simp [givG]
  | w :: ws, a, f => by rw [givG, givG, givG_app ws _ (a / w :: f), givG_app ws _ [a / w]]; simp
theorem given_length (ws : List Int) (a : Int) : (given ws a).length = ws.length := by unfold given; rw [given_len]; simp
theorem forW_up {g : DG} {tb : DTS} {K : DEnds} {α : Type} (emb : α → D) (I : List α → DSt → Prop)
    (step : ∀ x xs δ, I (x :: xs) δ → ∀ N : DSt → Prop, (∀ δ', I xs δ' → N δ') → g (emb x) δ fun δ1 => tb { nx := N, rt := K.rt, bk := K.nx, ct := N } δ1) (fin : ∀ δ, I [] δ → K.nx δ) : ∀ xs δ, I xs δ → forW g tb K (xs.map emb) δ
  | [], δ, h => fin δ h
  | x :: xs, δ, h => step x xs δ h _ fun δ' h' => forW_up emb I step fin xs δ' h'
theorem oForW_up {g : DG} {tb : OTS} {i : Nat} {K : OEnds} {α : Type} (emb : α → D) (I : List α → DSt → List D → Prop)
    (step : ∀ x xs δ ys, I (x :: xs) δ ys → ∀ N : DSt → List D → Prop, (∀ δ' ys', I xs δ' ys' → N δ' ys') → g (emb x) δ fun δ1 => dAt δ1 i = dAt δ i ∧ tb { nx := N, rt := K.rt, bk := K.nx, ct := N } δ1 ys) (fin : ∀ δ ys, I [] δ ys → K.nx δ ys) : ∀ xs δ ys, I xs δ ys → oForW g tb i K (xs.map emb) δ ys
  | [], δ, ys, h => fin δ ys h
  | x :: xs, δ, ys, h => step x xs δ ys h _ fun δ' ys' h' => oForW_up emb I step fin xs δ' ys' h'
theorem atI_map {α : Type} (f : α → D) (ns : List α) (d : α) (i : Int) (h0 : 0 ≤ i) (h : i.toNat < ns.length) : L2.atI (ns.map f) i = some (f (ns.getD i.toNat d)) := by
  have e : i = ((i.toNat : Nat) : Int) := by omega
  have : L2.atI (ns.map f) ((i.toNat : Nat) : Int) = some (f (ns.getD i.toNat d)) := atI_nat (by rw [List.getElem?_map, List.getElem?_eq_getElem h, List.getD_eq_getElem?_getD, List.getElem?_eq_getElem h]; rfl)
  rw [← e] at this
  exact this
theorem minL_mem : ∀ (x : Int) (r : List Int), minL (x :: r) ∈ x :: r
  | x, [] => by simp [minL]
  | x, y :: r => by
    rw [minL]
    split
    · exact List.mem_cons_self
    · exact List.mem_cons_of_mem _ (minL_mem y r)
    · simp
theorem minL_le : ∀ (r : List Int) (y : Int), y ∈ r → minL r ≤ y
  | [x], y, h => by rw [List.mem_singleton.mp h]; exact Int.le_refl _
  | x :: z :: r, y, h => by
    rw [minL]
    · have ih := minL_le (z :: r)
      rcases List.mem_cons.mp h with e | h
      · split <;> omega
      · have := ih y h
        split <;> omega
    · simp
theorem minL_eq {ns : List Int} {m : Int} (h : m ∈ ns) (hl : ∀ y ∈ ns, m ≤ y) : m = minL ns := by
  cases ns with
  | nil => cases h
  | cons x r =>
    have h1 := minL_le (x :: r) m h
    have h2 := hl _ (minL_mem x r)
    omega
theorem maxL_mem : ∀ (x : Int) (r : List Int), maxL (x :: r) ∈ x :: r
  | x, [] => by simp [maxL]
  | x, y :: r => by
    rw [maxL]
    split
    · exact List.mem_cons_self
    · exact List.mem_cons_of_mem _ (maxL_mem y r)
    · simp
theorem maxL_ge : ∀ (r : List Int) (y : Int), y ∈ r → y ≤ maxL r
  | [x], y, h => by rw [List.mem_singleton.mp h]; exact Int.le_refl _
  | x :: z :: r, y, h => by
    rw [maxL]
    · have ih := maxL_ge (z :: r)
      rcases List.mem_cons.mp h with e | h
      · split <;> omega
      · have := ih y h
        split <;> omega
    · simp
theorem maxL_eq {ns : List Int} {m : Int} (h : m ∈ ns) (hl : ∀ y ∈ ns, y ≤ m) : m = maxL ns := by
  cases ns with
  | nil => cases h
  | cons x r =>
    have h1 := maxL_ge (x :: r) m h
    have h2 := hl _ (maxL_mem x r)
    omega
theorem fewG_len (ws : List Int) : ∀ k, (fewG ws k).length = k + 1
  | 0 => rfl
  | k + 1 => by rw [fewG]; simp [fewG_len ws k]
theorem cut_neg1 {α : Type} (xs : List α) : cut xs none (some (-1)) = xs.dropLast := by
  have := cut_toNeg xs 1 (by decide)
  rw [List.dropLast_eq_take]
  exact this
theorem cut_fneg1 {α : Type} (xs : List α) : cut xs (some (-1)) none = xs.drop (xs.length - 1) := cut_fromNeg xs 1 (by decide)
theorem cut0 {α : Type} (xs : List α) (k : Int) (h : 0 ≤ k) : cut xs none (some k) = xs.take k.toNat := by
  have := cut_to xs k.toNat
  rw [show ((k.toNat : Nat) : Int) = k by omega] at this
  exact this
theorem cutF {α : Type} (xs : List α) (k : Int) (h : 0 ≤ k) : cut xs (some k) none = xs.drop k.toNat := by
  have := cut_from xs k.toNat
  rw [show ((k.toNat : Nat) : Int) = k by omega] at this
  exact this
theorem dot_zip : ∀ xs ys : List Int, ((xs.zip ys).map fun p => p.1 * p.2).sum = dot xs ys
  | [], _ => by simp [dot]
  | _ :: _, [] => by simp [dot]
  | x :: xs, y :: ys => by rw [List.zip_cons_cons, List.map_cons, List.sum_cons, dot_zip xs ys, dot]
theorem smallMul {i j : Int} (h : (0 ≤ i ∧ i ≤ 10 ^ 60) ∧ (0 ≤ j ∧ j ≤ 10 ^ 60)) : MulOk i j := by
  refine .inr ?_
  unfold CMulW
  have l : ∀ x : Int, 0 ≤ x → x ≤ 10 ^ 60 → x.natAbs.log2 < 9000 := fun x h0 h1 => by
    by_cases z : x = 0
    · subst z; decide
    · exact log_ok (by omega) h1
  have := l i h.1.1 h.1.2
  have := l j h.2.1 h.2.2
  omega
theorem filterMap_ite {α β : Type} (p : α → Prop) [DecidablePred p] (f : α → β) : ∀ l : List α, l.filterMap (fun x => if p x then some (f x) else none) = (l.filter fun x => decide (p x)).map f
  | [] => rfl
  | x :: l => by
    rw [List.filterMap_cons, List.filter_cons]
    by_cases h : p x
    · rw [if_pos h, if_pos (decide_eq_true h), List.map_cons, filterMap_ite p f l]
    · rw [if_neg h, if_neg (by simpa using h), filterMap_ite p f l]
end Gf
namespace Gf
open PySem PySem.Spec PyProof.Rows L2
local macro_rules | `(tactic| walk_at "rd") => `(tactic| simp only [dSeq, dSet, dVar, dC, dRet, dIfS, dtOr, dtAnd, dtNot, dTest, dNot, dAnd, dOr, dIf, dBin, dUn, dCall, dCons, dNil, dCB, dTup, dLst, dDrop, dNext, dPart, dNoPart, dSl, dItems, dName, dgTup, dgCons, dgNil, dYes, dAsg, dPar, dIx, dAdd, dSub, dMul, dFdiv, dMod, dPow, dLt, dLe, dGt, dGe, dNeg, dEq, dNe, dIsN, dNotN, dChain, dIsi, dLen, dTupleOf, dListOf, dAll, dAbs, dInt, startD, dAt_zero, dAt_succ, isN,
  List.map_cons, List.map_nil, List.cons_append, List.nil_append, List.length_cons, List.length_nil, List.set_cons_zero, List.set_cons_succ, List.replicate_succ, List.replicate_zero, Nat.zero_add, Nat.reduceAdd, Nat.reduceSub, List.append_nil])
local macro_rules | `(tactic| walk_at "ev") => `(tactic| (repeat' (first | exact ev_c | exact ea_nil | exact ev_var rfl | refine ea_cons ?_ ?_ | refine ev_tup ?_ (by decide) | refine ev_lst ?_ (by decide) | refine ev_neg ?_ | refine ev_add ?_ ?_ | refine ev_sub ?_ ?_ | refine ev_mul ?_ ?_ (.inl (.inl ⟨by decide, by decide⟩)) | refine ev_addL ?_ ?_ (by decide) | refine ev_addT ?_ ?_ (by decide))))

def smallM (m : Mint) : Prop := m.length ≤ 100 ∧ ∀ p ∈ m, 0 ≤ p.1 ∧ p.1 ≤ 3
theorem okMint_small {m : Mint} (h : okMint m = true) : smallM m := by
  unfold okMint at h
  simp only [Bool.and_eq_true, decide_eq_true_eq] at h
  refine ⟨by omega, fun p hp => ?_⟩
  have := List.all_eq_true.mp h.1.2 p hp
  unfold okCoin at this
  simp only [Bool.and_eq_true, decide_eq_true_eq] at this
  omega
theorem cut1 {α : Type} (xs : List α) : cut xs (some 1) none = xs.drop 1 := cut_from xs 1
theorem wl_len (m : Mint) (n : Int) : (wl m n).length = m.length + 1 := by unfold wl; simp
theorem rising_pos : ∀ {ws : List Int} {x : Int}, rising (x :: ws) = true → 0 < x → ∀ w ∈ x :: ws, 0 < w
  | [], x, _, hx, w, hw => by rw [List.mem_singleton.mp hw]; exact hx
  | y :: ws, x, h, hx, w, hw => by
    rw [rising, Bool.and_eq_true, decide_eq_true_eq] at h
    rcases List.mem_cons.mp hw with e | hw
    · rw [e]; exact hx
    · exact rising_pos h.2 (by omega) w hw
theorem struck_pos {m : Mint} {n : Int} (h : struckB m n = true) : ∀ w ∈ wl m n, 0 < w := rising_pos h (by decide)
theorem coin_b {m : Mint} (h : okMint m = true) : ∀ p ∈ m, 0 ≤ p.1 ∧ p.1 ≤ 3 ∧ -5 ≤ p.2 ∧ p.2 ≤ 9 := fun p hp => by
  unfold okMint at h
  simp only [Bool.and_eq_true, decide_eq_true_eq] at h
  have := List.all_eq_true.mp h.1.2 p hp
  unfold okCoin at this
  simp only [Bool.and_eq_true, decide_eq_true_eq] at this
  obtain ⟨⟨⟨h1, h2⟩, h3⟩, h4⟩ := this
  split at h3 <;> omega
theorem wl_le {m : Mint} {n : Int} (h : okMint m = true) (hn : 1 ≤ n ∧ n ≤ 10 ^ 30) : ∀ w ∈ wl m n, w ≤ 10 ^ 40 := fun w hw => by
  unfold wl at hw
  rcases List.mem_cons.mp hw with e | hw
  · rw [e]; decide
  · obtain ⟨p, hp, rfl⟩ := List.mem_map.mp hw
    have := coin_b h p hp
    have h3 : p.1 * n ≤ 3 * n := Int.mul_le_mul_of_nonneg_right (by omega) (by omega)
    have : (10 : Int) ^ 30 * 3 + 9 ≤ 10 ^ 40 := by decide +kernel
    omega
theorem wl_pos {m : Mint} {n : Int} (h : okMint m = true) (hn : 1 ≤ n ∧ n ≤ 10 ^ 30) (hs : struckB m n = true) : posW (wl m n) := fun w hw => ⟨struck_pos hs w hw, by
  have := wl_le h hn w hw
  have : (10 : Int) ^ 40 ≤ 10 ^ 60 := by decide +kernel
  omega⟩
theorem wl_small {m : Mint} {n : Int} (h : okMint m = true) : (wl m n).length ≤ 5 := by
  rw [wl_len]
  unfold okMint at h
  simp only [Bool.and_eq_true, decide_eq_true_eq] at h
  omega
def okAll (m : Mint) (n : Int) : Prop := okMint m = true ∧ (1 ≤ n ∧ n ≤ 10 ^ 30) ∧ struckB m n = true
theorem getLast_rev {α : Type} (x : α) (r : List α) : (x :: r).reverse.getLast? = some x := by simp
theorem dropLast_rev {α : Type} (x : α) (r : List α) : (x :: r).reverse.dropLast = r.reverse := by simp
def F_is_wide : FD := fun ds Q => ∃ d lo hi, ds = [d, .int lo, .int hi] ∧ plainD d ∧ Q (.bl (wide d lo hi))
def T_is_wide : DTS := (dRet (dAnd (dCB dIsi (dCons (dVar 0) (dCons (dC (.raw (.ty "tuple"))) dNil))) (dChain dLe dLe (dVar 1) (dCB dLen (dCons (dVar 0) dNil)) (dVar 2))))
theorem rd_is_wide : ∀ ds Q, ds.length = 3 → F_is_wide ds Q → T_is_wide { nx := fun _ => Q .non, rt := Q } (startD 3 ds) := by
  rintro ds Q _ ⟨d, lo, hi, rfl, hp, hq⟩
  unfold T_is_wide
  walk_at "rd"
  rw [isTy_tuple hp]
  cases d with
  | tup xs =>
    simp only [isTupD]
    unfold wide at hq
    by_cases h : lo ≤ (xs.length : Nat)
    · simpa [h] using hq
    · simpa [h] using hq
  | _ => exact hq
def F_is_within : FD := fun ds Q => ∃ d lo hi, ds = [d, .int lo, .int hi] ∧ plainD d ∧ Q (.bl (within d lo hi))
def T_is_within : DTS := (dRet (dAnd (dCB dIsi (dCons (dVar 0) (dCons (dC (.raw (.ty "int"))) dNil))) (dAnd (dNot (dCB dIsi (dCons (dVar 0) (dCons (dC (.raw (.ty "bool"))) dNil)))) (dChain dLe dLe (dVar 1) (dVar 0) (dVar 2)))))
theorem rd_is_within : ∀ ds Q, ds.length = 3 → F_is_within ds Q → T_is_within { nx := fun _ => Q .non, rt := Q } (startD 3 ds) := by
  rintro ds Q _ ⟨d, lo, hi, rfl, hp, hq⟩
  unfold T_is_within
  walk_at "rd"
  rw [isTy_int hp, isTy_bool hp]
  cases d with
  | int i =>
    simp only [isIntD, isBoolD]
    unfold within at hq
    by_cases h : lo ≤ i
    · simpa [h] using hq
    · simpa [h] using hq
  | bl b => exact hq
  | _ => exact hq
def F_is_coin : FD := fun ds Q => ∃ d, ds = [d] ∧ flat d = true ∧ Q (.bl (coinB d))
def T_is_coin : DTS := (dSeq (dIfS (dtOr (dtNot (dTest (dCall 3 F_is_wide (dCons (dVar 0) (dCons (dC (.int 2)) (dCons (dC (.int 2)) dNil)))))) (dtNot (dTest (dCall 3 F_is_within (dCons (dBin dIx (dVar 0) (dC (.int 0))) (dCons (dC (.int 0)) (dCons (dC (.int 3)) dNil))))))) (dRet (dC (.bl false))) dNext)
    (dRet (dCall 3 F_is_within (dCons (dBin dIx (dVar 0) (dC (.int 1))) (dCons (dIf (dTest (dBin dGt (dBin dIx (dVar 0) (dC (.int 0))) (dC (.int 0)))) (dUn dNeg (dC (.int 5))) (dC (.int 2))) (dCons (dC (.int 9)) dNil))))))
theorem rd_is_coin : ∀ ds Q, ds.length = 1 → F_is_coin ds Q → T_is_coin { nx := fun _ => Q .non, rt := Q } (startD 1 ds) := by
  rintro ds Q _ ⟨d, rfl, hf, hq⟩
  unfold T_is_coin
  walk_at "rd"
  refine ⟨trivial, d, 2, 2, rfl, flat_plain hf, ?_⟩
  walk_at "rd"
  cases hw : wide d 2 2 with
  | false =>
    simp only [Bool.not_false, if_true]
    have e : coinB d = false := by
      cases h : coinB d with
      | false => rfl
      | true =>
        obtain ⟨p, rfl, _, _⟩ := coinB_of h
        cases hw
    rw [e] at hq
    exact hq
  | true =>
    obtain ⟨x, y, rfl⟩ : ∃ x y, d = .tup [x, y] := by
      cases d with
      | tup xs =>
        have h : (decide ((2 : Int) ≤ (xs.length : Nat)) && decide (((xs.length : Nat) : Int) ≤ 2)) = true := hw
        simp only [Bool.and_eq_true, decide_eq_true_eq] at h
        match xs, h with
        | [x, y], _ => exact ⟨x, y, rfl⟩
        | [], h => simp at h
        | [_], h => simp at h
        | _ :: _ :: _ :: _, h => simp only [List.length_cons] at h; omega
      | _ => cases hw
    have f1 : flat x = true ∧ flat y = true := by
      rw [flat, flats, flats, flats, Bool.and_true, Bool.and_eq_true] at hf
      exact hf
    simp only [Bool.not_true, Bool.false_eq_true, if_false, at0, at1]
    refine ⟨trivial, x, 0, 3, rfl, flat_plain f1.1, ?_⟩
    walk_at "rd"
    unfold coinB at hq
    simp only at hq
    cases h1 : within x 0 3 with
    | false =>
      rw [h1, Bool.false_and] at hq
      simpa using hq
    | true =>
      rw [h1, Bool.true_and] at hq
      simp only [Bool.not_true, Bool.false_eq_true, if_false, at0, at1]
      cases x with
      | int a =>
        simp only at hq ⊢
        by_cases ha : 0 < a
        · simp only [ha, decide_true, if_true]
          refine ⟨trivial, y, _, _, rfl, flat_plain f1.2, ?_⟩
          simpa [ha] using hq
        · simp only [ha, decide_false, Bool.false_eq_true, if_false]
          refine ⟨trivial, y, _, _, rfl, flat_plain f1.2, ?_⟩
          simpa [ha] using hq
      | _ => cases h1
def F_is_fit : FD := fun ds Q => ∃ d, ds = [d] ∧ flat d = true ∧ Q (.bl (fitB d))
def T_is_fit : DTS := (dSeq (dIfS (dtOr (dtNot (dTest (dCall 3 F_is_wide (dCons (dVar 0) (dCons (dC (.int 1)) (dCons (dC (.int 4)) dNil)))))) (dtNot (dTest (dCB dAll (dCons (dLc (dItems (dVar 0)) (dName 1) dYes (dCall 1 F_is_coin (dCons (dVar 1) dNil)) [1]) dNil))))) (dRet (dC (.bl false))) dNext)
    (dRet (dBin dEq (dCB dListOf (dCons (dVar 0) dNil)) (dUn dSortedSet (dVar 0)))))
theorem rd_is_fit : ∀ ds Q, ds.length = 1 → F_is_fit ds Q → T_is_fit { nx := fun _ => Q .non, rt := Q } (startD 2 ds) := by
  rintro ds Q _ ⟨d, rfl, hf, hq⟩
  unfold T_is_fit
  walk_at "rd"
  refine ⟨trivial, d, 1, 4, rfl, flat_plain hf, ?_⟩
  walk_at "rd"
  cases hw : wide d 1 4 with
  | false =>
    simp only [Bool.not_false, if_true]
    have e : fitB d = false := by
      cases h : fitB d with
      | false => rfl
      | true =>
        obtain ⟨m, rfl, ho⟩ := fitB_some h
        unfold mintD wide at hw
        unfold okMint at ho
        simp only [Bool.and_eq_true, decide_eq_true_eq] at ho
        simp only [List.length_map, Bool.and_eq_false_iff, decide_eq_false_iff_not] at hw
        omega
    rw [e] at hq
    exact hq
  | true =>
    obtain ⟨xs, rfl⟩ : ∃ xs, d = .tup xs := by
      cases d with
      | tup xs => exact ⟨_, rfl⟩
      | _ => cases hw
    have hlen : 1 ≤ xs.length ∧ xs.length ≤ 4 := by
      unfold wide at hw
      simp only [Bool.and_eq_true, decide_eq_true_eq] at hw
      omega
    simp only [Bool.not_true, Bool.false_eq_true, if_false]
    have hfs : flats xs = true := by rw [flat] at hf; exact hf
    have ex : xs = xs.map id := by simp
    unfold dLc
    walk_at "rd"
    rw [show xs = xs.map id from ex]
    refine lcW_map (g := dName 1) id (fun x => .bl (coinB x)) xs (fun x hx Kt hk => ?_) (small_size (by omega)) ?_
    · simp only [wipeD]
      walk_at "rd"
      exact ⟨trivial, x, rfl, flats_mem hfs hx, hk⟩
    · walk_at "rd"
      refine ⟨xs.map coinB, by rw [List.map_map]; rfl, ?_⟩
      rw [← ex]
      have eall : (List.map coinB xs).all id = xs.all coinB := by rw [List.all_map]; rfl
      rw [eall]
      cases ha : xs.all coinB with
      | false =>
        simp only [Bool.not_false, if_true]
        have e : fitB (.tup xs) = false := by
          cases h : fitB (.tup xs) with
          | false => rfl
          | true =>
            obtain ⟨m, e, ho⟩ := fitB_some h
            cases e
            unfold okMint at ho
            simp only [Bool.and_eq_true, decide_eq_true_eq] at ho
            have e2 : (m.map pairD).all coinB = m.all okCoin := by
              rw [List.all_map]
              congr 1
              funext p
              exact coinB_pair p
            rw [e2, ho.1.2] at ha
            cases ha
        rw [e] at hq
        exact hq
      | true =>
        simp only [Bool.not_true, Bool.false_eq_true, if_false]
        obtain ⟨m, rfl, ho⟩ := coins_all fun d hd => List.all_eq_true.mp ha d hd
        have ef : fitB (.tup (m.map pairD)) = okMint m := fitB_tup m
        rw [ef] at hq
        rw [List.length_map] at hlen
        unfold dSortedSet seqOf
        refine ⟨m, rfl, by omega, fun qs h1 h2 => ⟨cmp_lst (flats_map flat_pair m) (Nat.le_trans (deeps_map deep_pair m) (by decide)), cmp_lst (flats_map flat_pair qs) (Nat.le_trans (deeps_map deep_pair qs) (by decide)), ?_⟩⟩
        rw [eqD_lst, eqvAll_map eqD_pair, sorted_same m qs h1 h2]
        unfold okMint at hq
        rw [ho, decide_eq_true hlen.1, decide_eq_true hlen.2] at hq
        exact hq
def F_is_mint : FD := F_is_fit
def T_is_mint : DTS := (dRet (dCall 1 F_is_fit (dCons (dVar 0) dNil)))
theorem rd_is_mint : ∀ ds Q, ds.length = 1 → F_is_mint ds Q → T_is_mint { nx := fun _ => Q .non, rt := Q } (startD 1 ds) := by
  rintro ds Q _ ⟨d, rfl, hf, hq⟩
  unfold T_is_mint
  walk_at "rd"
  exact ⟨trivial, d, rfl, hf, hq⟩
def F_look_at_mint : FD := fun ds Q => ∃ m, ds = [mintD m] ∧ okMint m = true ∧ Q .non
def T_look_at_mint : DTS := (dIfS (dtNot (dTest (dCall 1 F_is_fit (dCons (dVar 0) dNil)))) (fun _ _ => False) dNext)
theorem rd_look_at_mint : ∀ ds Q, ds.length = 1 → F_look_at_mint ds Q → T_look_at_mint { nx := fun _ => Q .non, rt := Q } (startD 1 ds) := by
  rintro ds Q _ ⟨m, rfl, hf, hq⟩
  unfold T_look_at_mint
  walk_at "rd"
  refine ⟨trivial, _, rfl, flat_mint m, ?_⟩
  rw [fitB_tup, hf]
  simpa using hq
def F_look_at_number : FD := fun ds Q => ∃ n, ds = [.int n] ∧ (1 ≤ n ∧ n ≤ 10 ^ 30) ∧ Q .non
def T_look_at_number : DTS := (dIfS (dtNot (dTest (dCall 3 F_is_within (dCons (dVar 0) (dCons (dC (.int 1)) (dCons (dC (.int 1000000000000000000000000000000)) dNil)))))) (fun _ _ => False) dNext)
theorem rd_look_at_number : ∀ ds Q, ds.length = 1 → F_look_at_number ds Q → T_look_at_number { nx := fun _ => Q .non, rt := Q } (startD 1 ds) := by
  rintro ds Q _ ⟨n, rfl, ⟨h1, h2⟩, hq⟩
  unfold T_look_at_number
  walk_at "rd"
  refine ⟨trivial, _, _, _, rfl, flat_plain (flat_int n), ?_⟩
  have e : within (.int n) 1 1000000000000000000000000000000 = true := by
    unfold within
    simp only [Bool.and_eq_true, decide_eq_true_eq]
    exact ⟨h1, by omega⟩
  rw [e]
  simpa using hq
def F_look_at_amount : FD := fun ds Q => ∃ a k, ds = [.int a, .int k] ∧ (0 ≤ a ∧ a ≤ k) ∧ Q .non
def T_look_at_amount : DTS := (dIfS (dtNot (dTest (dCall 3 F_is_within (dCons (dVar 0) (dCons (dC (.int 0)) (dCons (dVar 1) dNil)))))) (fun _ _ => False) dNext)
theorem rd_look_at_amount : ∀ ds Q, ds.length = 2 → F_look_at_amount ds Q → T_look_at_amount { nx := fun _ => Q .non, rt := Q } (startD 2 ds) := by
  rintro ds Q _ ⟨n, k, rfl, ⟨h1, h2⟩, hq⟩
  unfold T_look_at_amount
  walk_at "rd"
  refine ⟨trivial, _, _, _, rfl, flat_plain (flat_int n), ?_⟩
  have e : within (.int n) 0 k = true := by
    unfold within
    simp only [Bool.and_eq_true, decide_eq_true_eq]
    exact ⟨h1, h2⟩
  rw [e]
  simpa using hq
def F_worths_by : FD := fun ds Q => ∃ m n, ds = [mintD m, .int n] ∧ smallM m ∧ Q (intsT (wl m n))
def T_worths_by : DTS := (dRet (dBin dAdd (dTup (dCons (dC (.int 1)) dNil)) (dCB dTupleOf (dCons (dLc (dItems (dVar 0)) (dgTup 2 (dgCons (dName 2) (dgCons (dName 3) dgNil))) dYes (dBin dAdd (dBin dMul (dVar 2) (dVar 1)) (dVar 3)) [2, 3]) dNil))))
theorem rd_worths_by : ∀ ds Q, ds.length = 2 → F_worths_by ds Q → T_worths_by { nx := fun _ => Q .non, rt := Q } (startD 4 ds) := by
  rintro ds Q _ ⟨m, n, rfl, ⟨hl, hm⟩, hq⟩
  unfold T_worths_by mintD
  walk_at "rd"
  refine ⟨by decide, ?_⟩
  unfold dLc
  walk_at "rd"
  refine lcW_map pairD (fun p => .int (p.1 * n + p.2)) m (fun p hp Kt hk => ?_) (small_size (by omega)) ?_
  · simp only [wipeD, pairD]
    walk_at "rd"
    refine ⟨trivial, .inl (.inl ?_), hk⟩
    have := hm p hp
    omega
  · walk_at "rd"
    refine ⟨by have := small_size (n := m.length + 1) (by omega); rw [List.length_map]; omega, ?_⟩
    unfold intsT wl at hq
    rw [List.map_cons, List.map_map] at hq
    exact hq
def F_struck_by : FD := fun ds Q => ∃ m n, ds = [mintD m, .int n] ∧ smallM m ∧ Q (.bl (struckB m n))
def T_struck_by : DTS := (dSeq (dSet 2 (dCall 2 F_worths_by (dCons (dVar 0) (dCons (dVar 1) dNil))))
    (dRet (dCB dAll (dCons (dLc (dZip (dCons (dVar 2) (dCons (dSl (dVar 2) (dPart (dC (.int 1))) dNoPart) dNil))) (dgTup 2 (dgCons (dName 3) (dgCons (dName 4) dgNil))) dYes (dBin dLt (dVar 3) (dVar 4)) [3, 4]) dNil))))
theorem rd_struck_by : ∀ ds Q, ds.length = 2 → F_struck_by ds Q → T_struck_by { nx := fun _ => Q .non, rt := Q } (startD 5 ds) := by
  rintro ds Q _ ⟨m, n, rfl, hs, hq⟩
  unfold T_struck_by
  walk_at "rd"
  refine ⟨trivial, m, n, rfl, hs, ?_⟩
  unfold dLc dZip intsT
  walk_at "rd"
  rw [cut1]
  unfold seqOf
  simp only []
  rw [← List.map_drop, zip_pairs]
  refine lcW_map pairD (fun p => .bl (decide (p.1 < p.2))) _ (fun p hp Kt hk => ?_) (small_size ?_) ?_
  · simp only [wipeD, pairD]
    walk_at "rd"
    exact ⟨trivial, hk⟩
  · have := hs.1
    unfold wl
    simp
    omega
  · walk_at "rd"
    refine ⟨((wl m n).zip ((wl m n).drop 1)).map fun p => decide (p.1 < p.2), by rw [List.map_map]; rfl, ?_⟩
    rw [rising_zip]
    exact hq
def F_look_at_struck : FD := fun ds Q => ∃ m n, ds = [mintD m, .int n] ∧ smallM m ∧ struckB m n = true ∧ Q .non
def T_look_at_struck : DTS := (dIfS (dtNot (dTest (dCall 2 F_struck_by (dCons (dVar 0) (dCons (dVar 1) dNil))))) (fun _ _ => False) dNext)
theorem rd_look_at_struck : ∀ ds Q, ds.length = 2 → F_look_at_struck ds Q → T_look_at_struck { nx := fun _ => Q .non, rt := Q } (startD 2 ds) := by
  rintro ds Q _ ⟨m, n, rfl, hs, hk, hq⟩
  unfold T_look_at_struck
  walk_at "rd"
  refine ⟨trivial, m, n, rfl, hs, ?_⟩
  rw [hk]
  simpa using hq
def F_look_at_all : FD := fun ds Q => ∃ m n a k, ds = [mintD m, .int n, .int a, .int k] ∧ okMint m = true ∧ (1 ≤ n ∧ n ≤ 10 ^ 30) ∧ (0 ≤ a ∧ a ≤ k) ∧ struckB m n = true ∧ Q .non
def T_look_at_all : DTS := (dSeq (dDrop (dCall 1 F_look_at_mint (dCons (dVar 0) dNil)))
    (dSeq (dDrop (dCall 1 F_look_at_number (dCons (dVar 1) dNil)))
    (dSeq (dDrop (dCall 2 F_look_at_amount (dCons (dVar 2) (dCons (dVar 3) dNil))))
    (dDrop (dCall 2 F_look_at_struck (dCons (dVar 0) (dCons (dVar 1) dNil)))))))
theorem rd_look_at_all : ∀ ds Q, ds.length = 4 → F_look_at_all ds Q → T_look_at_all { nx := fun _ => Q .non, rt := Q } (startD 4 ds) := by
  rintro ds Q _ ⟨m, n, a, k, rfl, hm, hn, ha, hs, hq⟩
  unfold T_look_at_all
  walk_at "rd"
  refine ⟨trivial, m, rfl, hm, ?_⟩
  refine ⟨trivial, n, rfl, hn, ?_⟩
  refine ⟨trivial, a, k, rfl, ha, ?_⟩
  exact ⟨trivial, m, n, rfl, okMint_small hm, hs, hq⟩
def F_look_at_both : FD := fun ds Q => ∃ m n, ds = [mintD m, .int n] ∧ okMint m = true ∧ (1 ≤ n ∧ n ≤ 10 ^ 30) ∧ Q .non
def T_look_at_both : DTS := (dSeq (dDrop (dCall 1 F_look_at_mint (dCons (dVar 0) dNil)))
    (dDrop (dCall 1 F_look_at_number (dCons (dVar 1) dNil))))
theorem rd_look_at_both : ∀ ds Q, ds.length = 2 → F_look_at_both ds Q → T_look_at_both { nx := fun _ => Q .non, rt := Q } (startD 2 ds) := by
  rintro ds Q _ ⟨m, n, rfl, hm, hn, hq⟩
  unfold T_look_at_both
  walk_at "rd"
  refine ⟨trivial, m, rfl, hm, ?_⟩
  exact ⟨trivial, n, rfl, hn, hq⟩
def F_worths : FD := fun ds Q => ∃ m n, ds = [mintD m, .int n] ∧ okMint m = true ∧ (1 ≤ n ∧ n ≤ 10 ^ 30) ∧ Q (intsT (wl m n))
def T_worths : DTS := (dSeq (dDrop (dCall 1 F_look_at_mint (dCons (dVar 0) dNil)))
    (dSeq (dDrop (dCall 1 F_look_at_number (dCons (dVar 1) dNil)))
    (dRet (dCall 2 F_worths_by (dCons (dVar 0) (dCons (dVar 1) dNil))))))
theorem rd_worths : ∀ ds Q, ds.length = 2 → F_worths ds Q → T_worths { nx := fun _ => Q .non, rt := Q } (startD 2 ds) := by
  rintro ds Q _ ⟨m, n, rfl, hm, hn, hq⟩
  unfold T_worths
  walk_at "rd"
  refine ⟨trivial, m, rfl, hm, ?_⟩
  refine ⟨trivial, n, rfl, hn, ?_⟩
  exact ⟨trivial, m, n, rfl, okMint_small hm, hq⟩
def F_is_struck : FD := fun ds Q => ∃ m n, ds = [mintD m, .int n] ∧ okMint m = true ∧ (1 ≤ n ∧ n ≤ 10 ^ 30) ∧ Q (.bl (struckB m n))
def T_is_struck : DTS := (dSeq (dDrop (dCall 1 F_look_at_mint (dCons (dVar 0) dNil)))
    (dSeq (dDrop (dCall 1 F_look_at_number (dCons (dVar 1) dNil)))
    (dRet (dCall 2 F_struck_by (dCons (dVar 0) (dCons (dVar 1) dNil))))))
theorem rd_is_struck : ∀ ds Q, ds.length = 2 → F_is_struck ds Q → T_is_struck { nx := fun _ => Q .non, rt := Q } (startD 2 ds) := by
  rintro ds Q _ ⟨m, n, rfl, hm, hn, hq⟩
  unfold T_is_struck
  walk_at "rd"
  refine ⟨trivial, m, rfl, hm, ?_⟩
  refine ⟨trivial, n, rfl, hn, ?_⟩
  exact ⟨trivial, m, n, rfl, okMint_small hm, hq⟩
def F_given_by : FD := fun ds Q => ∃ ws a, ds = [intsT ws, .int a] ∧ ws.length ≤ 200 ∧ posW ws ∧ Q (intsT (given ws a))
def T_given_by : DTS := (dSeq (dSet 2 (dTup dNil))
    (dSeq (dFor (dItems (dRev (dVar 0))) (dName 3) (dSeq (dSet 2 (dBin dAdd (dTup (dCons (dBin dFdiv (dVar 1) (dVar 3)) dNil)) (dVar 2)))
    (dSet 1 (dBin dMod (dVar 1) (dVar 3)))))
    (dRet (dVar 2))))
theorem rd_given_by : ∀ ds Q, ds.length = 2 → F_given_by ds Q → T_given_by { nx := fun _ => Q .non, rt := Q } (startD 4 ds) := by
  rintro ds Q _ ⟨ws, a, rfl, hl, hp, hq⟩
  unfold T_given_by intsT dFor dRev
  walk_at "rd"
  refine ⟨by decide, ?_⟩
  rw [← List.map_reverse]
  refine forW_up D.int (fun us δ => ∃ b f o, δ = [some (.tup (ws.map .int)), some (.int b), some (.tup (f.map .int)), o] ∧ posW us ∧ f.length + us.length ≤ 300 ∧ givG us b f = given ws a) (fun x xs δ hI N hN => ?_) (fun δ hI => ?_) _ _ ⟨a, [], none, rfl, fun w hw => hp w (List.mem_reverse.mp hw), by simp; omega, rfl⟩
  · obtain ⟨b, f, o, rfl, h1, h2, h3⟩ := hI
    have hx := h1 x List.mem_cons_self
    rw [List.length_cons] at h2
    walk_at "rd"
    refine ⟨divOk hx, by decide, ?_, hx.1, ?_⟩
    · have := small_size (n := 300) (by decide)
      rw [List.length_map]
      omega
    · exact hN _ ⟨b % x, b / x :: f, some (.int x), by rw [List.map_cons], fun w hw => h1 w (List.mem_cons_of_mem _ hw), by rw [List.length_cons]; omega, by rw [← h3]; rfl⟩
  · obtain ⟨b, f, o, rfl, h1, h2, h3⟩ := hI
    walk_at "rd"
    rw [show f = given ws a from h3]
    exact hq
def F_change : FD := fun ds Q => ∃ m n a, ds = [mintD m, .int n, .int a] ∧ okAll m n ∧ (0 ≤ a ∧ a ≤ 10 ^ 31) ∧ Q (intsT (given (wl m n) a))
def T_change : DTS := (dSeq (dDrop (dCall 4 F_look_at_all (dCons (dVar 0) (dCons (dVar 1) (dCons (dVar 2) (dCons (dC (.int 10000000000000000000000000000000)) dNil))))))
    (dRet (dCall 2 F_given_by (dCons (dCall 2 F_worths_by (dCons (dVar 0) (dCons (dVar 1) dNil))) (dCons (dVar 2) dNil)))))
theorem rd_change : ∀ ds Q, ds.length = 3 → F_change ds Q → T_change { nx := fun _ => Q .non, rt := Q } (startD 3 ds) := by
  rintro ds Q _ ⟨m, n, a, rfl, ⟨hm, hn, hs⟩, ha, hq⟩
  unfold T_change
  walk_at "rd"
  refine ⟨trivial, m, n, a, _, rfl, hm, hn, ⟨ha.1, by omega⟩, hs, ?_⟩
  refine ⟨trivial, m, n, rfl, okMint_small hm, ?_⟩
  exact ⟨trivial, _, a, rfl, by have := wl_small (n := n) hm; omega, wl_pos hm hn hs, hq⟩
def F_count_given : FD := fun ds Q => ∃ m n a, ds = [mintD m, .int n, .int a] ∧ okAll m n ∧ (0 ≤ a ∧ a ≤ 10 ^ 31) ∧ Q (.int (given (wl m n) a).sum)
def T_count_given : DTS := (dSeq (dDrop (dCall 4 F_look_at_all (dCons (dVar 0) (dCons (dVar 1) (dCons (dVar 2) (dCons (dC (.int 10000000000000000000000000000000)) dNil))))))
    (dRet (dCB dSum (dCons (dCall 2 F_given_by (dCons (dCall 2 F_worths_by (dCons (dVar 0) (dCons (dVar 1) dNil))) (dCons (dVar 2) dNil))) dNil))))
theorem rd_count_given : ∀ ds Q, ds.length = 3 → F_count_given ds Q → T_count_given { nx := fun _ => Q .non, rt := Q } (startD 3 ds) := by
  rintro ds Q _ ⟨m, n, a, rfl, ⟨hm, hn, hs⟩, ha, hq⟩
  unfold T_count_given
  walk_at "rd"
  refine ⟨trivial, m, n, a, _, rfl, hm, hn, ⟨ha.1, by omega⟩, hs, ?_⟩
  refine ⟨trivial, m, n, rfl, okMint_small hm, ?_⟩
  exact ⟨trivial, _, a, rfl, by have := wl_small (n := n) hm; omega, wl_pos hm hn hs, _, rfl, hq⟩
def F_fewest_row : FD := fun ds Q => ∃ ws k, ds = [intsT ws, .int (k : Nat)] ∧ k ≤ 5000 ∧ ws.length ≤ 200 ∧ posW ws ∧ 1 ∈ ws ∧ Q (intsL (fewG ws k))
def T_fewest_row : DTS := (dSeq (dSet 2 (dLst (dCons (dC (.int 0)) dNil)))
    (dSeq (dFor (dRange2 (dCons (dC (.int 1)) (dCons (dBin dAdd (dVar 1) (dC (.int 1))) dNil))) (dName 3) (dSet 2 (dBin dAdd (dVar 2) (dLst (dCons (dBin dAdd (dC (.int 1)) (dCB dMin (dCons (dLc (dItems (dVar 0)) (dName 4) (dTest (dBin dLe (dVar 4) (dVar 3))) (dBin dIx (dVar 2) (dBin dSub (dVar 3) (dVar 4))) [4]) dNil))) dNil)))))
    (dRet (dVar 2))))
theorem rd_fewest_row : ∀ ds Q, ds.length = 2 → F_fewest_row ds Q → T_fewest_row { nx := fun _ => Q .non, rt := Q } (startD 5 ds) := by
  rintro ds Q _ ⟨ws, k, rfl, hk, hl, hp, h1, hq⟩
  unfold T_fewest_row intsT dFor dRange2
  walk_at "rd"
  refine ⟨by decide, by omega, ?_⟩
  rw [range_up, show ((k : Nat) : Int) + 1 - 1 = ((k : Nat) : Int) by omega, Int.toNat_natCast]
  refine forW_up D.int (fun us δ => ∃ (j : Nat) (o : Option D), δ = [some (.tup (ws.map .int)), some (.int (k : Nat)), some (.lst ((fewG ws j).map .int)), o, none] ∧ us = upFrom (j + 1) (k - j) ∧ j ≤ k) (fun x xs δ hI N hN => ?_) (fun δ hI => ?_) _ _ ⟨0, none, rfl, by simp, Nat.zero_le _⟩
  · obtain ⟨j, o, rfl, h2, h3⟩ := hI
    obtain ⟨i, hi⟩ : ∃ i, k - j = i + 1 := by
      cases e : k - j with
      | zero => rw [e, upFrom] at h2; cases h2
      | succ i => exact ⟨i, rfl⟩
    rw [hi, upFrom] at h2
    injection h2 with hx hxs
    subst hx
    unfold dLc
    walk_at "rd"
    refine lcW_ok D.int (fun w => if w ≤ (j : Int) + 1 then some (.int ((fewG ws j).getD ((j : Int) + 1 - w).toNat 0)) else none) ws [] (fun w hw Kt Kf q => ?_) (by have := small_size (n := ws.length) (by omega); simpa using this) ?_
    · simp only [wipeD]
      walk_at "rd"
      by_cases hle : w ≤ (j : Int) + 1
      · rw [if_pos hle] at q
        simp only [hle, decide_true, if_true]
        have hw0 := (hp w hw).1
        rw [atI_map D.int (fewG ws j) 0 _ (by omega) (by rw [fewG_len]; omega)]
        exact q
      · rw [if_neg hle] at q
        simp only [hle, decide_false, Bool.false_eq_true, if_false]
        exact q
    · have e : List.filterMap (fun w => if w ≤ (j : Int) + 1 then some (D.int ((fewG ws j).getD ((j : Int) + 1 - w).toNat 0)) else none) ws = (((ws.filter fun w => decide (w ≤ (j : Int) + 1)).map fun w => (fewG ws j).getD ((j : Int) + 1 - w).toNat 0)).map D.int := by
        rw [filterMap_ite, List.map_map]
        rfl
      rw [List.nil_append, e]
      unfold dMin
      refine ⟨_, rfl, ?_, fun m hm hle => ?_⟩
      · have : (1 : Int) ∈ ws.filter fun w => decide (w ≤ (j : Int) + 1) := List.mem_filter.mpr ⟨h1, by simp; omega⟩
        rw [List.length_map]
        exact List.length_pos_of_mem this
      · walk_at "rd"
        refine ⟨by decide, ?_, ?_⟩
        · have := small_size (n := 6000) (by decide)
          rw [List.length_map, fewG_len]
          omega
        · refine hN _ ⟨j + 1, some (.int ((j : Int) + 1)), ?_, ?_, by omega⟩
          · rw [minL_eq hm hle, fewG]
            simp only [List.map_append, List.map_cons, List.map_nil]
            rfl
          · rw [hxs, show k - (j + 1) = i by omega]
            rfl
  · obtain ⟨j, o, rfl, h2, h3⟩ := hI
    have ej : j = k := by
      cases e : k - j with
      | zero => omega
      | succ i => rw [e, upFrom] at h2; cases h2
    subst ej
    walk_at "rd"
    exact hq
def F_fewest : FD := fun ds Q => ∃ m n k, ds = [mintD m, .int n, .int (k : Nat)] ∧ okAll m n ∧ k ≤ 2000 ∧ Q (.int ((fewG (wl m n) k).getD k 0))
def T_fewest : DTS := (dSeq (dDrop (dCall 4 F_look_at_all (dCons (dVar 0) (dCons (dVar 1) (dCons (dVar 2) (dCons (dC (.int 2000)) dNil))))))
    (dRet (dBin dIx (dCall 2 F_fewest_row (dCons (dCall 2 F_worths_by (dCons (dVar 0) (dCons (dVar 1) dNil))) (dCons (dVar 2) dNil))) (dVar 2))))
theorem rd_fewest : ∀ ds Q, ds.length = 3 → F_fewest ds Q → T_fewest { nx := fun _ => Q .non, rt := Q } (startD 3 ds) := by
  rintro ds Q _ ⟨m, n, k, rfl, ⟨hm, hn, hs⟩, hk, hq⟩
  unfold T_fewest
  walk_at "rd"
  refine ⟨trivial, m, n, _, _, rfl, hm, hn, ⟨by omega, by omega⟩, hs, ?_⟩
  refine ⟨trivial, m, n, rfl, okMint_small hm, ?_⟩
  refine ⟨trivial, _, k, rfl, by omega, by have := wl_small (n := n) hm; omega, wl_pos hm hn hs, by unfold wl; simp, ?_⟩
  unfold intsL
  walk_at "rd"
  rw [atI_map D.int (fewG (wl m n) k) 0 _ (by omega) (by rw [fewG_len]; omega)]
  exact hq
def Fr_most_by (L : Nat) : FD := fun ds Q => ∃ rs a, ds = [intsT rs.reverse, .int a] ∧ 1 ≤ rs.length ∧ rs.length ≤ L ∧ posW rs ∧ Q (.int (mostR rs a))
def F_most_by : FD := Fr_most_by 5
def T_most_by (F_most_by : FD) : DTS := (dSeq (dIfS (dTest (dBin dEq (dCB dLen (dCons (dVar 0) dNil)) (dC (.int 1)))) (dRet (dVar 1)) dNext)
    (dSeq (dPar 2 3 (dBin dFdiv (dVar 1) (dBin dIx (dVar 0) (dUn dNeg (dC (.int 1))))) (dBin dMod (dVar 1) (dBin dIx (dVar 0) (dUn dNeg (dC (.int 1))))))
    (dSeq (dSet 4 (dBin dAdd (dVar 2) (dCall 2 F_most_by (dCons (dSl (dVar 0) dNoPart (dPart (dUn dNeg (dC (.int 1))))) (dCons (dVar 3) dNil)))))
    (dSeq (dIfS (dTest (dBin dGt (dVar 2) (dC (.int 0)))) (dSet 4 (dCB dMax (dCons (dVar 4) (dCons (dBin dAdd (dBin dSub (dVar 2) (dC (.int 1))) (dCall 2 F_most_by (dCons (dSl (dVar 0) dNoPart (dPart (dUn dNeg (dC (.int 1))))) (dCons (dBin dSub (dBin dIx (dVar 0) (dUn dNeg (dC (.int 1)))) (dC (.int 1))) dNil)))) dNil)))) dNext)
    (dRet (dVar 4))))))
theorem rd_most_by (L : Nat) : ∀ ds Q, ds.length = 2 → Fr_most_by (L + 1) ds Q → T_most_by (Fr_most_by L) { nx := fun _ => Q .non, rt := Q } (startD 5 ds) := by
  rintro ds Q _ ⟨rs, a, rfl, h1, h2, hp, hq⟩
  unfold T_most_by intsT
  walk_at "rd"
  refine ⟨cmp_int _, cmp_int _, ?_⟩
  rw [eqD_int, List.length_map, List.length_reverse]
  match rs, h1 with
  | [w], _ =>
    simp only [List.length_singleton, Int.natCast_one, decide_true, if_true]
    exact hq
  | w :: v :: r, _ =>
    have hw := hp w List.mem_cons_self
    have en : ¬ ((((w :: v :: r).length : Nat) : Int) = 1) := by rw [List.length_cons, List.length_cons]; omega
    rw [decide_eq_false en]
    simp only [Bool.false_eq_true, if_false]
    have el : L2.atI ((w :: v :: r).reverse.map D.int) (-1) = some (.int w) := atI_neg1 _ _ (by rw [List.getLast?_map, getLast_rev]; rfl)
    rw [el]
    simp only []
    refine ⟨divOk hw, hw.1, ?_⟩
    rw [cut_neg1, ← List.map_dropLast, dropLast_rev]
    simp only [List.length_cons] at h2
    refine ⟨trivial, v :: r, _, rfl, by simp, by rw [List.length_cons]; omega, fun z hz => hp z (List.mem_cons_of_mem _ hz), ?_⟩
    walk_at "rd"
    rw [mostR] at hq
    · by_cases hz : 0 < a / w
      · simp only [hz, decide_true, if_true]
        refine ⟨trivial, v :: r, _, rfl, by simp, by rw [List.length_cons]; omega, fun z hz => hp z (List.mem_cons_of_mem _ hz), ?_⟩
        unfold dMax
        walk_at "rd"
        simp only [gt_iff_lt, hz, if_true] at hq
        exact hq
      · simp only [hz, decide_false, Bool.false_eq_true, if_false]
        simp only [gt_iff_lt, hz, if_false] at hq
        exact hq
    · simp
def F_most_given : FD := fun ds Q => ∃ m n a, ds = [mintD m, .int n, .int a] ∧ okAll m n ∧ (0 ≤ a ∧ a ≤ 10 ^ 31) ∧ Q (.int (mostB (wl m n) a))
def T_most_given : DTS := (dSeq (dDrop (dCall 4 F_look_at_all (dCons (dVar 0) (dCons (dVar 1) (dCons (dVar 2) (dCons (dC (.int 10000000000000000000000000000000)) dNil))))))
    (dRet (dCall 2 F_most_by (dCons (dCall 2 F_worths_by (dCons (dVar 0) (dCons (dVar 1) dNil))) (dCons (dVar 2) dNil)))))
theorem rd_most_given : ∀ ds Q, ds.length = 3 → F_most_given ds Q → T_most_given { nx := fun _ => Q .non, rt := Q } (startD 3 ds) := by
  rintro ds Q _ ⟨m, n, a, rfl, ⟨hm, hn, hs⟩, ha, hq⟩
  unfold T_most_given
  walk_at "rd"
  refine ⟨trivial, m, n, a, _, rfl, hm, hn, ⟨ha.1, by omega⟩, hs, ?_⟩
  refine ⟨trivial, m, n, rfl, okMint_small hm, ?_⟩
  exact ⟨trivial, (wl m n).reverse, a, by rw [List.reverse_reverse], by rw [List.length_reverse, wl_len]; omega, by rw [List.length_reverse]; exact wl_small hm, fun w hw => wl_pos hm hn hs w (List.mem_reverse.mp hw), hq⟩

end Gf
namespace Gf
open PySem PySem.Spec PyProof.Rows L2
local macro_rules | `(tactic| walk_at "rd") => `(tactic| simp only [dSeq, dSet, dVar, dC, dRet, dIfS, dtOr, dtAnd, dtNot, dTest, dNot, dAnd, dOr, dIf, dBin, dUn, dCall, dCons, dNil, dCB, dTup, dLst, dDrop, dNext, dPart, dNoPart, dSl, dItems, dName, dgTup, dgCons, dgNil, dYes, dAsg, dPar, dIx, dAdd, dSub, dMul, dFdiv, dMod, dPow, dLt, dLe, dGt, dGe, dNeg, dEq, dNe, dIsN, dNotN, dChain, dIsi, dLen, dTupleOf, dListOf, dAll, dAbs, dInt, startD, dAt_zero, dAt_succ, isN,
  List.map_cons, List.map_nil, List.cons_append, List.nil_append, List.length_cons, List.length_nil, List.set_cons_zero, List.set_cons_succ, List.replicate_succ, List.replicate_zero, Nat.zero_add, Nat.reduceAdd, Nat.reduceSub, List.append_nil])
local macro_rules | `(tactic| walk_at "ev") => `(tactic| (repeat' (first | exact ev_c | exact ea_nil | exact ev_var rfl | refine ea_cons ?_ ?_ | refine ev_tup ?_ (by decide) | refine ev_lst ?_ (by decide) | refine ev_neg ?_ | refine ev_add ?_ ?_ | refine ev_sub ?_ ?_ | refine ev_mul ?_ ?_ (.inl (.inl ⟨by decide, by decide⟩)) | refine ev_addL ?_ ?_ (by decide) | refine ev_addT ?_ ?_ (by decide))))

theorem ts_len (ws : List Int) (a : Int) : (given ws a).length = ws.length := given_length ws a
theorem div_le {a w : Int} (ha : 0 ≤ a) (hw : 0 < w) : 0 ≤ a / w ∧ a / w ≤ a := ⟨Int.ediv_nonneg ha (by omega), Int.ediv_le_self _ ha⟩
theorem mod_le {a w : Int} (ha : 0 ≤ a) (hw : 0 < w) : 0 ≤ a % w ∧ a % w ≤ a := ⟨Int.emod_nonneg _ (by omega), by
  have h1 := Int.mul_ediv_add_emod a w
  have h2 : 0 ≤ w * (a / w) := Int.mul_nonneg (by omega) (div_le ha hw).1
  omega⟩
theorem givG_bd {B : Int} : ∀ (ws : List Int) (a : Int) (f : List Int), 0 ≤ a → (∀ w ∈ ws, 0 < w) → (∀ x ∈ f, 0 ≤ x ∧ x ≤ B) → a ≤ B → ∀ x ∈ givG ws a f, 0 ≤ x ∧ x ≤ B
  | [], a, f, _, _, hf, _, x, hx => hf x hx
  | w :: ws, a, f, ha, hw, hf, hB, x, hx => by
    have h0 := hw w List.mem_cons_self
    refine givG_bd ws (a % w) (a / w :: f) (mod_le ha h0).1 (fun z hz => hw z (List.mem_cons_of_mem _ hz)) (fun y hy => ?_) (Int.le_trans (mod_le ha h0).2 hB) x hx
    rcases List.mem_cons.mp hy with e | hy
    · rw [e]; exact ⟨(div_le ha h0).1, Int.le_trans (div_le ha h0).2 hB⟩
    · exact hf y hy
theorem given_bd {ws : List Int} {a B : Int} (ha : 0 ≤ a) (hw : ∀ w ∈ ws, 0 < w) (hB : a ≤ B) : ∀ x ∈ given ws a, 0 ≤ x ∧ x ≤ B :=
  givG_bd ws.reverse a [] ha (fun w h => hw w (List.mem_reverse.mp h)) (fun _ h => nomatch h) hB
def posV (ws : List Int) : Prop := ∀ w ∈ ws, 0 < w ∧ w ≤ 10 ^ 40
theorem posV.w {ws : List Int} (h : posV ws) : posW ws := fun w hw => ⟨(h w hw).1, by
  have := (h w hw).2
  have : (10 : Int) ^ 40 ≤ 10 ^ 60 := by decide +kernel
  omega⟩
theorem wl_posV {m : Mint} {n : Int} (h : okMint m = true) (hn : 1 ≤ n ∧ n ≤ 10 ^ 30) (hs : struckB m n = true) : posV (wl m n) := fun w hw => ⟨struck_pos hs w hw, wl_le h hn w hw⟩
theorem rep0 (k : Nat) : (List.replicate k [D.int 0]).flatten = (List.replicate k (0 : Int)).map D.int := by
  induction k with
  | zero => rfl
  | succ k ih => rw [List.replicate_succ, List.flatten_cons, ih, List.replicate_succ, List.map_cons]; rfl
theorem othersAt_snoc (ws : List Int) (k j : Nat) : ((List.range (j + 1)).map fun down => (dot (coinsAt (given ws (ws.getD k 0 - 1)) down) ws, (coinsAt (given ws (ws.getD k 0 - 1)) down).sum)) =
    ((List.range j).map fun down => (dot (coinsAt (given ws (ws.getD k 0 - 1)) down) ws, (coinsAt (given ws (ws.getD k 0 - 1)) down).sum)) ++ [(dot (coinsAt (given ws (ws.getD k 0 - 1)) j) ws, (coinsAt (given ws (ws.getD k 0 - 1)) j).sum)] := by
  rw [List.range_succ, List.map_append]; rfl
theorem others_snoc (ws : List Int) (j : Nat) : ((List.range (j + 1)).flatMap fun k => othersAt ws (k + 1)) = ((List.range j).flatMap fun k => othersAt ws (k + 1)) ++ othersAt ws (j + 1) := by
  rw [List.range_succ, List.flatMap_append]; simp
theorem upFrom_succ {lo x : Int} {k : Nat} {xs : List Int} (h : x :: xs = upFrom lo k) : ∃ i, k = i + 1 ∧ x = lo ∧ xs = upFrom (lo + 1) i := by
  cases k with
  | zero => cases h
  | succ i => rw [upFrom] at h; injection h with h1 h2; exact ⟨i, rfl, h1, h2⟩
theorem upFrom_nil {lo : Int} {k : Nat} (h : [] = upFrom lo k) : k = 0 := by
  cases k with
  | zero => rfl
  | succ i => cases h
theorem othersAt_len (ws : List Int) (k : Nat) : (othersAt ws k).length = k := by unfold othersAt; simp
theorem others_len (ws : List Int) : ∀ j, ((List.range j).flatMap fun k => othersAt ws (k + 1)).length ≤ j * (j + 1)
  | 0 => by simp
  | j + 1 => by
    rw [others_snoc, List.length_append, othersAt_len]
    have := others_len ws j
    have e : (j + 1) * (j + 1 + 1) = j * (j + 1) + 2 * (j + 1) := by
      rw [← Nat.add_mul]
      exact Nat.mul_comm _ _
    omega
def F_others_by : FD := fun ds Q => ∃ ws, ds = [intsT ws] ∧ ws.length ≤ 20 ∧ posV ws ∧ Q (.lst ((others ws).map pairD))
def T_others_by : DTS := (dSeq (dSet 1 (dLst dNil))
    (dSeq (dFor (dRange2 (dCons (dC (.int 1)) (dCons (dCB dLen (dCons (dVar 0) dNil)) dNil))) (dName 2) (dSeq (dSet 3 (dCall 2 F_given_by (dCons (dVar 0) (dCons (dBin dSub (dBin dIx (dVar 0) (dVar 2)) (dC (.int 1))) dNil))))
    (dFor (dRange1 (dCons (dVar 2) dNil)) (dName 4) (dSeq (dSet 5 (dBin dAdd (dBin dAdd (dBin dMul (dLst (dCons (dC (.int 0)) dNil)) (dVar 4)) (dLst (dCons (dBin dAdd (dBin dIx (dVar 3) (dVar 4)) (dC (.int 1))) dNil))) (dCB dListOf (dCons (dSl (dVar 3) (dPart (dBin dAdd (dVar 4) (dC (.int 1)))) dNoPart) dNil))))
    (dSet 1 (dBin dAdd (dVar 1) (dLst (dCons (dTup (dCons (dCB dSum (dCons (dLc (dZip (dCons (dVar 5) (dCons (dVar 0) dNil))) (dgTup 2 (dgCons (dName 6) (dgCons (dName 7) dgNil))) dYes (dBin dMul (dVar 6) (dVar 7)) [6, 7]) dNil)) (dCons (dCB dSum (dCons (dVar 5) dNil)) dNil))) dNil))))))))
    (dRet (dVar 1))))
theorem rd_others_by : ∀ ds Q, ds.length = 1 → F_others_by ds Q → T_others_by { nx := fun _ => Q .non, rt := Q } (startD 8 ds) := by
  rintro ds Q _ ⟨ws, rfl, hl, hp, hq⟩
  unfold T_others_by intsT dFor dRange2 dRange1
  walk_at "rd"
  refine ⟨by decide, ⟨by decide, by decide, by rw [List.length_map]; omega, by rw [List.length_map]; omega⟩, ?_⟩
  rw [range_up, List.length_map]
  have e20 : (((ws.length : Nat) : Int) - 1).toNat = ws.length - 1 := by omega
  rw [e20]
  refine forW_up D.int (fun us δ => ∃ (j : Nat) (o2 o3 o4 o5 : Option D), δ = [some (.tup (ws.map .int)), some (.lst (((List.range j).flatMap fun k => othersAt ws (k + 1)).map pairD)), o2, o3, o4, o5, none, none] ∧ us = upFrom (j + 1) (ws.length - 1 - j) ∧ j ≤ ws.length - 1) (fun x xs δ hI N hN => ?_) (fun δ hI => ?_) _ _ ⟨0, none, none, none, none, rfl, by simp, Nat.zero_le _⟩
  · obtain ⟨j, o2, o3, o4, o5, rfl, h2, h3⟩ := hI
    obtain ⟨i, hi, rfl, hxs⟩ := upFrom_succ h2
    have hj : j + 1 < ws.length := by omega
    walk_at "rd"
    rw [atI_map D.int ws 0 _ (by omega) (by omega)]
    have ej : ((j : Int) + 1).toNat = j + 1 := by omega
    rw [ej]
    simp only []
    refine ⟨trivial, ws, _, rfl, by omega, hp.w, ?_⟩
    walk_at "rd"
    refine ⟨⟨by omega, by omega⟩, ?_⟩
    rw [range_up]
    have hw : 0 < ws.getD (j + 1) 0 ∧ ws.getD (j + 1) 0 ≤ 10 ^ 40 := hp _ (by rw [List.getD_eq_getElem?_getD, List.getElem?_eq_getElem hj]; exact List.getElem_mem hj)
    have hb := given_bd (ws := ws) (a := ws.getD (j + 1) 0 - 1) (B := 10 ^ 40) (by omega) (fun w h => (hp w h).1) (by omega)
    have hgl := given_length ws (ws.getD (j + 1) 0 - 1)
    refine forW_up D.int (fun us δ => ∃ (d : Nat) (o4 o5 : Option D), δ = [some (.tup (ws.map .int)), some (.lst ((((List.range j).flatMap fun k => othersAt ws (k + 1)) ++ (List.range d).map fun down => (dot (coinsAt (given ws (ws.getD (j + 1) 0 - 1)) down) ws, (coinsAt (given ws (ws.getD (j + 1) 0 - 1)) down).sum)).map pairD)), some (.int ((j : Int) + 1)), some (.tup ((given ws (ws.getD (j + 1) 0 - 1)).map .int)), o4, o5, none, none] ∧ us = upFrom d (j + 1 - d) ∧ d ≤ j + 1) (fun x xs' δ hI N' hN' => ?_) (fun δ hI => ?_) _ _ ⟨0, o4, o5, by simp [intsT], by simp, Nat.zero_le _⟩
    · obtain ⟨d, o4, o5, rfl, h4, h5⟩ := hI
      obtain ⟨i', hi', rfl, hxs'⟩ := upFrom_succ h4
      have hd : d < (given ws (ws.getD (j + 1) 0 - 1)).length := by omega
      generalize hG : given ws (ws.getD (j + 1) 0 - 1) = G at *
      walk_at "rd"
      refine ⟨by decide, ⟨by omega, by omega, ?_⟩, ?_⟩
      · have := small_size (n := 100) (by decide)
        omega
      rw [atI_map D.int G 0 _ (by omega) (by omega), Int.toNat_natCast]
      simp only []
      refine ⟨by decide, ?_, ?_⟩
      · have := small_size (n := 100) (by decide); rw [rep0]; simp only [List.length_map, List.length_replicate, List.length_cons, List.length_nil]; omega
      rw [cutF _ _ (by omega), show ((d : Int) + 1).toNat = d + 1 by omega]
      refine ⟨?_, ?_⟩
      · have := small_size (n := 100) (by decide); rw [rep0]; simp only [List.length_append, List.length_map, List.length_replicate, List.length_cons, List.length_nil, List.length_drop]; omega
      have ec : (List.replicate d [D.int 0]).flatten ++ [D.int (G.getD d 0 + 1)] ++ (List.map D.int G).drop (d + 1) = (coinsAt G d).map D.int := by
        rw [rep0]
        unfold coinsAt
        rw [List.map_append, List.map_append, List.map_drop]
        rfl
      rw [ec]
      have hcl : (coinsAt G d).length = G.length := by
        unfold coinsAt
        simp only [List.length_append, List.length_replicate, List.length_cons, List.length_nil, List.length_drop]
        omega
      have hcb : ∀ c ∈ coinsAt G d, 0 ≤ c ∧ c ≤ 10 ^ 60 := fun c hc => by
        have big : (10 : Int) ^ 40 + 1 ≤ 10 ^ 60 := by decide +kernel
        have hx : ∀ x ∈ G, 0 ≤ x ∧ x ≤ 10 ^ 40 := hb
        unfold coinsAt at hc
        rcases List.mem_append.mp hc with hc | hc
        · rcases List.mem_append.mp hc with hc | hc
          · rw [List.eq_of_mem_replicate hc]; decide
          · rw [List.mem_singleton.mp hc]
            have := hx (G.getD d 0) (by rw [List.getD_eq_getElem?_getD, List.getElem?_eq_getElem hd]; exact List.getElem_mem hd)
            omega
        · have := hx c (List.mem_of_mem_drop hc)
          omega
      unfold dLc dZip seqOf
      walk_at "rd"
      rw [zip_pairs]
      refine lcW_map pairD (fun p => .int (p.1 * p.2)) _ (fun p hp' Kt hk => ?_) (small_size (by rw [List.length_zip]; omega)) ?_
      · simp only [wipeD, pairD]
        walk_at "rd"
        refine ⟨trivial, smallMul ⟨hcb _ (List.of_mem_zip hp').1, ?_⟩, hk⟩
        have := hp.w _ (List.of_mem_zip hp').2
        omega
      · unfold dSum
        walk_at "rd"
        refine ⟨((coinsAt G d).zip ws).map fun p => p.1 * p.2, by rw [List.map_map]; rfl, _, rfl, ⟨by decide, by decide, ?_, ?_⟩⟩
        · have := small_size (n := 3000) (by decide)
          have h6 := others_len ws j
          have h7 : j * (j + 1) ≤ 20 * 21 := Nat.mul_le_mul (by omega) (by omega)
          simp only [List.length_map, List.length_append, List.length_range, List.length_cons, List.length_nil]
          omega
        · refine hN' _ ⟨d + 1, some (.int (d : Int)), some (.lst ((coinsAt G d).map .int)), ?_, ?_, by omega⟩
          · rw [List.range_succ]
            simp only [List.map_append, List.map_cons, List.map_nil, List.append_assoc, dot_zip]
            rfl
          · rw [hxs', show j + 1 - (d + 1) = i' by omega]
            rfl
    · obtain ⟨d, o4, o5, rfl, h4, h5⟩ := hI
      have := upFrom_nil h4
      have ed : d = j + 1 := by omega
      subst ed
      refine hN _ ⟨j + 1, some (.int ((j : Int) + 1)), some (.tup ((given ws (ws.getD (j + 1) 0 - 1)).map .int)), o4, o5, ?_, ?_, by omega⟩
      · rw [others_snoc]; rfl
      · rw [hxs, show ws.length - 1 - (j + 1) = i by omega]
        rfl
  · obtain ⟨j, o2, o3, o4, o5, rfl, h2, h3⟩ := hI
    have := upFrom_nil h2
    have ej : j = ws.length - 1 := by omega
    walk_at "rd"
    rw [ej]
    exact hq

end Gf
namespace Gf
open PySem PySem.Spec PyProof.Rows L2
local macro_rules | `(tactic| walk_at "rd") => `(tactic| simp only [dSeq, dSet, dVar, dC, dRet, dIfS, dtOr, dtAnd, dtNot, dTest, dNot, dAnd, dOr, dIf, dBin, dUn, dCall, dCons, dNil, dCB, dTup, dLst, dDrop, dNext, dPart, dNoPart, dSl, dItems, dName, dgTup, dgCons, dgNil, dYes, dAsg, dPar, dIx, dAdd, dSub, dMul, dFdiv, dMod, dPow, dLt, dLe, dGt, dGe, dNeg, dEq, dNe, dIsN, dNotN, dChain, dIsi, dLen, dTupleOf, dListOf, dAll, dAbs, dInt, startD, dAt_zero, dAt_succ, isN,
  List.map_cons, List.map_nil, List.cons_append, List.nil_append, List.length_cons, List.length_nil, List.set_cons_zero, List.set_cons_succ, List.replicate_succ, List.replicate_zero, Nat.zero_add, Nat.reduceAdd, Nat.reduceSub, List.append_nil])
local macro_rules | `(tactic| walk_at "ev") => `(tactic| (repeat' (first | exact ev_c | exact ea_nil | exact ev_var rfl | refine ea_cons ?_ ?_ | refine ev_tup ?_ (by decide) | refine ev_lst ?_ (by decide) | refine ev_neg ?_ | refine ev_add ?_ ?_ | refine ev_sub ?_ ?_ | refine ev_mul ?_ ?_ (.inl (.inl ⟨by decide, by decide⟩)) | refine ev_addL ?_ ?_ (by decide) | refine ev_addT ?_ ?_ (by decide))))

def okWs (ws : List Int) : Prop := ws.length ≤ 20 ∧ posV ws
def F_bad_by : FD := fun ds Q => ∃ ws, ds = [intsT ws] ∧ okWs ws ∧ Q (optD pairD (badB ws))
def T_bad_by : DTS := (dSeq (dSet 1 (dLc (dItems (dCall 1 F_others_by (dCons (dVar 0) dNil))) (dgTup 2 (dgCons (dName 2) (dgCons (dName 3) dgNil))) (dTest (dBin dLt (dVar 3) (dCB dSum (dCons (dCall 2 F_given_by (dCons (dVar 0) (dCons (dVar 2) dNil))) dNil)))) (dTup (dCons (dVar 2) (dCons (dVar 3) dNil))) [2, 3]))
    (dSeq (dIfS (dTest (dBin dEq (dVar 1) (dLst dNil))) (dRet (dC .non)) dNext)
    (dSeq (dAsg (dCB dMinP (dCons (dVar 1) dNil)) (dgTup 2 (dgCons (dName 2) (dgCons (dName 3) dgNil))))
    (dRet (dTup (dCons (dVar 2) (dCons (dBin dSub (dCB dSum (dCons (dCall 2 F_given_by (dCons (dVar 0) (dCons (dVar 2) dNil))) dNil)) (dVar 3)) dNil)))))))
theorem sq420 {ws : List Int} (hl : ws.length ≤ 20) : (others ws).length ≤ 420 := by
  have h6 := others_len ws (ws.length - 1)
  have h7 : (ws.length - 1) * (ws.length - 1 + 1) ≤ 20 * 21 := Nat.mul_le_mul (by omega) (by omega)
  have e : (others ws) = (List.range (ws.length - 1)).flatMap fun k => othersAt ws (k + 1) := rfl
  rw [e]
  omega
theorem rd_bad_by : ∀ ds Q, ds.length = 1 → F_bad_by ds Q → T_bad_by { nx := fun _ => Q .non, rt := Q } (startD 4 ds) := by
  rintro ds Q _ ⟨ws, rfl, ⟨hl, hp⟩, hq⟩
  unfold T_bad_by dLc
  walk_at "rd"
  refine ⟨trivial, ws, rfl, hl, hp, ?_⟩
  simp only [wipeD]
  walk_at "rd"
  refine lcW_ok pairD (fun p => if p.2 < (given ws p.1).sum then some (pairD p) else none) _ [] (fun p hp' Kt Kf q => ?_) (by have := small_size (n := (others ws).length) (by have := sq420 hl; omega); simpa using this) ?_
  · unfold pairD
    walk_at "rd"
    refine ⟨trivial, ?_⟩
    refine ⟨trivial, ws, p.1, rfl, by omega, hp.w, ?_⟩
    unfold dSum intsT
    walk_at "rd"
    refine ⟨_, rfl, ?_⟩
    by_cases h : p.2 < (given ws p.1).sum
    · rw [if_pos h] at q
      simp only [h, decide_true, if_true]
      exact ⟨by decide, q⟩
    · rw [if_neg h] at q
      simp only [h, decide_false, Bool.false_eq_true, if_false]
      exact q
  · rw [List.nil_append, filterMap_ite]
    have eb : (others ws).filter (fun x => decide (x.2 < (given ws x.1).sum)) = badL ws := rfl
    rw [eb]
    refine ⟨by decide, cmp_lst (flats_map flat_pair _) (Nat.le_trans (deeps_map deep_pair _) (by decide)), cmp_lst (by rw [flats]) (by rw [deeps]; decide), ?_⟩
    have e0 : eqD (.lst ((badL ws).map pairD)) (.lst []) = (badL ws == []) := by
      rw [eqD_lst]
      exact eqvAll_map eqD_pair (badL ws) []
    rw [e0]
    unfold badB at hq
    cases hb : badL ws with
    | nil =>
      rw [hb] at hq
      exact hq
    | cons p r =>
      rw [hb] at hq
      have e1 : ((p :: r) == ([] : List (Int × Int))) = false := rfl
      rw [e1]
      simp only [Bool.false_eq_true, if_false]
      unfold dMinP
      refine ⟨p :: r, rfl, by simp, fun m hm hle => ?_⟩
      have em : m = minP p r := by
        have h1 := hle _ (minP_mem p r)
        have h2 := minP_le p r m hm
        generalize minP p r = k at *
        obtain ⟨a, b⟩ := m
        obtain ⟨c, d⟩ := k
        unfold leP at h1 h2
        simp only [decide_eq_true_eq] at h1 h2
        rw [Prod.mk.injEq]
        omega
      subst em
      have hq' : Q (pairD ((minP p r).1, (given ws (minP p r).1).sum - (minP p r).2)) := hq
      clear hq
      generalize minP p r = k at *
      unfold pairD
      walk_at "rd"
      refine ⟨trivial, ?_⟩
      refine ⟨trivial, ws, k.1, rfl, by omega, hp.w, ?_⟩
      unfold dSum intsT
      walk_at "rd"
      exact ⟨_, rfl, by decide, hq'⟩
def okN (m : Mint) (n : Int) : Prop := okMint m = true ∧ 1 ≤ n ∧ n ≤ 10 ^ 30
def F_right_by : FD := fun ds Q => ∃ m n, ds = [mintD m, .int n] ∧ okN m n ∧ Q (.bl (rightB m n))
def T_right_by : DTS := (dRet (dAnd (dCall 2 F_struck_by (dCons (dVar 0) (dCons (dVar 1) dNil))) (dBin dIsN (dCall 1 F_bad_by (dCons (dCall 2 F_worths_by (dCons (dVar 0) (dCons (dVar 1) dNil))) dNil)) (dC .non))))
theorem rd_right_by : ∀ ds Q, ds.length = 2 → F_right_by ds Q → T_right_by { nx := fun _ => Q .non, rt := Q } (startD 2 ds) := by
  rintro ds Q _ ⟨m, n, rfl, ⟨hm, hn⟩, hq⟩
  unfold T_right_by
  walk_at "rd"
  refine ⟨trivial, m, n, rfl, okMint_small hm, ?_⟩
  unfold rightB at hq
  cases hs : struckB m n with
  | false => rw [hs] at hq; exact hq
  | true =>
    rw [hs, Bool.true_and] at hq
    simp only []
    refine ⟨trivial, m, n, rfl, okMint_small hm, ?_⟩
    refine ⟨trivial, _, rfl, ⟨by have := wl_small (n := n) hm; omega, wl_posV hm hn hs⟩, ?_⟩
    cases hb : badB (wl m n) with
    | none => rw [hb] at hq; exact hq
    | some p => rw [hb] at hq; exact hq
def F_bad_of : FD := fun ds Q => ∃ m n, ds = [mintD m, .int n] ∧ okN m n ∧ Q (optD pairD (badOf m n))
def T_bad_of : DTS := (dRet (dIf (dTest (dCall 2 F_struck_by (dCons (dVar 0) (dCons (dVar 1) dNil)))) (dCall 1 F_bad_by (dCons (dCall 2 F_worths_by (dCons (dVar 0) (dCons (dVar 1) dNil))) dNil)) (dC .non)))
theorem rd_bad_of : ∀ ds Q, ds.length = 2 → F_bad_of ds Q → T_bad_of { nx := fun _ => Q .non, rt := Q } (startD 2 ds) := by
  rintro ds Q _ ⟨m, n, rfl, ⟨hm, hn⟩, hq⟩
  unfold T_bad_of
  walk_at "rd"
  refine ⟨trivial, m, n, rfl, okMint_small hm, ?_⟩
  unfold badOf at hq
  cases hs : struckB m n with
  | false => rw [hs] at hq; exact hq
  | true =>
    rw [hs] at hq
    simp only [if_true] at hq ⊢
    refine ⟨trivial, m, n, rfl, okMint_small hm, ?_⟩
    exact ⟨trivial, _, rfl, ⟨by have := wl_small (n := n) hm; omega, wl_posV hm hn hs⟩, hq⟩
def F_is_right : FD := F_right_by
def T_is_right : DTS := (dSeq (dDrop (dCall 2 F_look_at_both (dCons (dVar 0) (dCons (dVar 1) dNil))))
    (dRet (dCall 2 F_right_by (dCons (dVar 0) (dCons (dVar 1) dNil)))))
theorem rd_is_right : ∀ ds Q, ds.length = 2 → F_is_right ds Q → T_is_right { nx := fun _ => Q .non, rt := Q } (startD 2 ds) := by
  rintro ds Q _ ⟨m, n, rfl, ⟨hm, hn⟩, hq⟩
  unfold T_is_right
  walk_at "rd"
  refine ⟨trivial, m, n, rfl, hm, hn, ?_⟩
  exact ⟨trivial, m, n, rfl, ⟨hm, hn⟩, hq⟩
def F_least_bad : FD := fun ds Q => ∃ m n, ds = [mintD m, .int n] ∧ okAll m n ∧ Q (optD .int ((badB (wl m n)).map (·.1)))
def T_least_bad : DTS := (dSeq (dDrop (dCall 2 F_look_at_both (dCons (dVar 0) (dCons (dVar 1) dNil))))
    (dSeq (dDrop (dCall 2 F_look_at_struck (dCons (dVar 0) (dCons (dVar 1) dNil))))
    (dSeq (dSet 2 (dCall 1 F_bad_by (dCons (dCall 2 F_worths_by (dCons (dVar 0) (dCons (dVar 1) dNil))) dNil)))
    (dRet (dIf (dTest (dBin dIsN (dVar 2) (dC .non))) (dC .non) (dBin dIx (dVar 2) (dC (.int 0))))))))
theorem rd_least_bad : ∀ ds Q, ds.length = 2 → F_least_bad ds Q → T_least_bad { nx := fun _ => Q .non, rt := Q } (startD 3 ds) := by
  rintro ds Q _ ⟨m, n, rfl, ⟨hm, hn, hs⟩, hq⟩
  unfold T_least_bad
  walk_at "rd"
  refine ⟨trivial, m, n, rfl, hm, hn, ?_⟩
  refine ⟨trivial, m, n, rfl, okMint_small hm, hs, ?_⟩
  refine ⟨trivial, m, n, rfl, okMint_small hm, ?_⟩
  refine ⟨trivial, _, rfl, ⟨by have := wl_small (n := n) hm; omega, wl_posV hm hn hs⟩, ?_⟩
  cases hb : badB (wl m n) with
  | none => rw [hb] at hq; exact hq
  | some p =>
    rw [hb] at hq
    unfold optD pairD
    walk_at "rd"
    simp only [Bool.false_eq_true, if_false, at0]
    exact hq
def F_worse_by : FD := fun ds Q => ∃ m n, ds = [mintD m, .int n] ∧ okAll m n ∧ Q (optD .int ((badB (wl m n)).map (·.2)))
def T_worse_by : DTS := (dSeq (dDrop (dCall 2 F_look_at_both (dCons (dVar 0) (dCons (dVar 1) dNil))))
    (dSeq (dDrop (dCall 2 F_look_at_struck (dCons (dVar 0) (dCons (dVar 1) dNil))))
    (dSeq (dSet 2 (dCall 1 F_bad_by (dCons (dCall 2 F_worths_by (dCons (dVar 0) (dCons (dVar 1) dNil))) dNil)))
    (dRet (dIf (dTest (dBin dIsN (dVar 2) (dC .non))) (dC .non) (dBin dIx (dVar 2) (dC (.int 1))))))))
theorem rd_worse_by : ∀ ds Q, ds.length = 2 → F_worse_by ds Q → T_worse_by { nx := fun _ => Q .non, rt := Q } (startD 3 ds) := by
  rintro ds Q _ ⟨m, n, rfl, ⟨hm, hn, hs⟩, hq⟩
  unfold T_worse_by
  walk_at "rd"
  refine ⟨trivial, m, n, rfl, hm, hn, ?_⟩
  refine ⟨trivial, m, n, rfl, okMint_small hm, hs, ?_⟩
  refine ⟨trivial, m, n, rfl, okMint_small hm, ?_⟩
  refine ⟨trivial, _, rfl, ⟨by have := wl_small (n := n) hm; omega, wl_posV hm hn hs⟩, ?_⟩
  cases hb : badB (wl m n) with
  | none => rw [hb] at hq; exact hq
  | some p =>
    rw [hb] at hq
    unfold optD pairD
    walk_at "rd"
    simp only [Bool.false_eq_true, if_false, at1]
    exact hq
def F_size_of : FD := fun ds Q => ∃ m, ds = [mintD m] ∧ okMint m = true ∧ Q (.int (sizeOf' m : Nat))
def T_size_of : DTS := (dRet (dCB dMax (dCons (dBin dAdd (dLst (dCons (dC (.int 1)) dNil)) (dLc (dItems (dVar 0)) (dgTup 2 (dgCons (dName 1) (dgCons (dName 2) dgNil))) (dTest (dBin dEq (dVar 1) (dC (.int 0)))) (dVar 2) [1, 2])) dNil)))
theorem sizeOf_bd {m : Mint} (h : okMint m = true) : 1 ≤ sizeOf' m ∧ sizeOf' m ≤ 9 ∧ ((sizeOf' m : Nat) : Int) = maxL (1 :: (m.filter fun p => decide (p.1 = 0)).map (·.2)) := by
  have h1 := maxL_ge (1 :: (m.filter fun p => decide (p.1 = 0)).map (·.2)) 1 List.mem_cons_self
  have h2 := maxL_mem 1 ((m.filter fun p => decide (p.1 = 0)).map (·.2))
  have h3 : maxL (1 :: (m.filter fun p => decide (p.1 = 0)).map (·.2)) ≤ 9 := by
    rcases List.mem_cons.mp h2 with e | hm
    · rw [e]; decide
    · obtain ⟨p, hp, e⟩ := List.mem_map.mp hm
      rw [← e]
      exact (coin_b h p (List.mem_filter.mp hp).1).2.2.2
  unfold sizeOf'
  omega
theorem rd_size_of : ∀ ds Q, ds.length = 1 → F_size_of ds Q → T_size_of { nx := fun _ => Q .non, rt := Q } (startD 3 ds) := by
  rintro ds Q _ ⟨m, rfl, hm, hq⟩
  unfold T_size_of dLc mintD
  walk_at "rd"
  simp only [wipeD]
  walk_at "rd"
  have hl := (okMint_small hm).1
  refine ⟨by decide, ?_⟩
  refine lcW_ok pairD (fun p => if p.1 = 0 then some (.int p.2) else none) m [] (fun p hp Kt Kf q => ?_) (by have := small_size (n := m.length) (by omega); simpa using this) ?_
  · unfold pairD
    walk_at "rd"
    refine ⟨trivial, cmp_int _, cmp_int _, ?_⟩
    rw [eqD_int]
    by_cases h : p.1 = 0
    · rw [if_pos h] at q
      simp only [h, decide_true, if_true]
      exact q
    · rw [if_neg h] at q
      simp only [h, decide_false, Bool.false_eq_true, if_false]
      exact q
  · rw [List.nil_append, filterMap_ite]
    walk_at "rd"
    refine ⟨?_, ?_⟩
    · have := small_size (n := 102) (by decide)
      have h2 := List.length_filter_le (fun x : Int × Int => decide (x.1 = 0)) m
      rw [List.length_map]
      omega
    · unfold dMax
      refine ⟨1 :: (m.filter fun p => decide (p.1 = 0)).map (·.2), by rw [List.map_cons, List.map_map]; rfl, by simp, fun z hz hle => ?_⟩
      rw [maxL_eq hz hle, ← (sizeOf_bd hm).2.2]
      exact hq
def F_right_row : FD := fun ds Q => ∃ m, ds = [mintD m] ∧ okMint m = true ∧ Q (.lst ((rightRow m).map .bl))
def T_right_row : DTS := (dRet (dLc (dRange2 (dCons (dC (.int 1)) (dCons (dBin dAdd (dBin dAdd (dC (.int 1000)) (dCall 1 F_size_of (dCons (dVar 0) dNil))) (dC (.int 1))) dNil))) (dName 1) dYes (dCall 2 F_right_by (dCons (dVar 0) (dCons (dVar 1) dNil))) [1]))
theorem rowT_up (f : Int → Bool) (k : Nat) : rowT f k = (upFrom 1 k).map f := by
  unfold rowT
  rw [← upFrom_range, List.map_map]
  refine List.map_congr_left fun i _ => ?_
  show f ((i + 1 : Nat) : Int) = f (1 + (i : Int))
  congr 1
  omega
theorem p30 : (100000 : Int) ≤ 10 ^ 30 := by decide +kernel
theorem rd_right_row : ∀ ds Q, ds.length = 1 → F_right_row ds Q → T_right_row { nx := fun _ => Q .non, rt := Q } (startD 2 ds) := by
  rintro ds Q _ ⟨m, rfl, hm, hq⟩
  have hz := sizeOf_bd hm
  have := p30
  unfold T_right_row dLc dRange2
  walk_at "rd"
  simp only [wipeD]
  walk_at "rd"
  refine ⟨trivial, m, rfl, hm, ?_⟩
  refine ⟨⟨by decide, by decide, by omega, by omega⟩, ?_⟩
  rw [range_up]
  refine lcW_map D.int (fun n => match n with | n => .bl (rightB m n)) _ (fun n hn Kt hk => ?_) (small_size (by rw [upFrom_len]; omega)) ?_
  · walk_at "rd"
    have := upFrom_mem hn
    exact ⟨trivial, m, n, rfl, ⟨hm, by omega, by omega⟩, hk⟩
  · unfold rightRow at hq
    rw [rowT_up, List.map_map] at hq
    rw [show (1000 + ((sizeOf' m : Nat) : Int) + 1 - 1).toNat = 1000 + sizeOf' m by omega]
    exact hq

end Gf
namespace Gf
open PySem PySem.Spec PyProof.Rows L2
local macro_rules | `(tactic| walk_at "rd") => `(tactic| simp only [dSeq, dSet, dVar, dC, dRet, dIfS, dtOr, dtAnd, dtNot, dTest, dNot, dAnd, dOr, dIf, dBin, dUn, dCall, dCons, dNil, dCB, dTup, dLst, dDrop, dNext, dPart, dNoPart, dSl, dItems, dName, dgTup, dgCons, dgNil, dYes, dAsg, dPar, dIx, dAdd, dSub, dMul, dFdiv, dMod, dPow, dLt, dLe, dGt, dGe, dNeg, dEq, dNe, dIsN, dNotN, dChain, dIsi, dLen, dTupleOf, dListOf, dAll, dAbs, dInt, startD, dAt_zero, dAt_succ, isN,
  List.map_cons, List.map_nil, List.cons_append, List.nil_append, List.length_cons, List.length_nil, List.set_cons_zero, List.set_cons_succ, List.replicate_succ, List.replicate_zero, Nat.zero_add, Nat.reduceAdd, Nat.reduceSub, List.append_nil])
local macro_rules | `(tactic| walk_at "ev") => `(tactic| (repeat' (first | exact ev_c | exact ea_nil | exact ev_var rfl | refine ea_cons ?_ ?_ | refine ev_tup ?_ (by decide) | refine ev_lst ?_ (by decide) | refine ev_neg ?_ | refine ev_add ?_ ?_ | refine ev_sub ?_ ?_ | refine ev_mul ?_ ?_ (.inl (.inl ⟨by decide, by decide⟩)) | refine ev_addL ?_ ?_ (by decide) | refine ev_addT ?_ ?_ (by decide))))

def shortTest (xs : List D) (k : Nat) : Bool := xs.length % (k + 1) == 0 && PyData.eqvAll (toPys (List.replicate (xs.length / (k + 1)) (xs.take (k + 1))).flatten) (toPys xs)
def shortD (xs : List D) : List D := match (List.range (xs.length - 1)).find? (shortTest xs) with
  | some k => xs.take (k + 1)
  | none => xs
theorem find_none {p : Nat → Bool} {n : Nat} (h : ∀ i, i < n → p i = false) : (List.range n).find? p = none := by
  rw [List.find?_eq_none]
  intro i hi
  rw [h i (List.mem_range.mp hi)]
  exact Bool.false_ne_true
theorem find_some {p : Nat → Bool} {n j : Nat} (hj : j < n) (hp : p j = true) (h : ∀ i, i < j → p i = false) : (List.range n).find? p = some j := by
  rw [List.find?_range_eq_some]
  exact ⟨hp, List.mem_range.mpr hj, fun i hi => by rw [h i hi]; rfl⟩
theorem shortD_map {α : Type} [BEq α] {f : α → D} (hf : ∀ a b, eqD (f a) (f b) = (a == b)) (xs : List α) : shortD (xs.map f) = (shortL xs).map f := by
  unfold shortD shortL
  rw [List.length_map]
  have e : shortTest (xs.map f) = fun k => xs.length % (k + 1) == 0 && (List.replicate (xs.length / (k + 1)) (xs.take (k + 1))).flatten == xs := by
    funext k
    unfold shortTest
    rw [List.length_map, ← eqvAll_map hf, ← List.map_take]
    congr 3
    rw [List.map_flatten, List.map_replicate]
  rw [e]
  cases (List.range (xs.length - 1)).find? fun k => xs.length % (k + 1) == 0 && (List.replicate (xs.length / (k + 1)) (xs.take (k + 1))).flatten == xs with
  | none => rfl
  | some k => rw [List.map_take]
theorem flats_take {xs : List D} (h : flats xs = true) (k : Nat) : flats (xs.take k) = true := by
  induction xs generalizing k with
  | nil => rw [List.take_nil]; exact h
  | cons x r ih =>
    rw [flats, Bool.and_eq_true] at h
    cases k with
    | zero => rw [List.take_zero, flats]
    | succ k => rw [List.take_succ_cons, flats, h.1, ih h.2]; rfl
theorem deeps_take {xs : List D} {b : Nat} (h : deeps xs ≤ b) (k : Nat) : deeps (xs.take k) ≤ b := by
  induction xs generalizing k with
  | nil => rw [List.take_nil]; exact h
  | cons x r ih =>
    rw [deeps] at h
    cases k with
    | zero => rw [List.take_zero, deeps]; omega
    | succ k => rw [List.take_succ_cons, deeps]; have := ih (by omega) k; omega
theorem flats_app {xs ys : List D} (h : flats xs = true) (h2 : flats ys = true) : flats (xs ++ ys) = true := by
  induction xs with
  | nil => exact h2
  | cons x r ih =>
    rw [flats, Bool.and_eq_true] at h
    rw [List.cons_append, flats, h.1, ih h.2]; rfl
theorem deeps_app {xs ys : List D} {b : Nat} (h : deeps xs ≤ b) (h2 : deeps ys ≤ b) : deeps (xs ++ ys) ≤ b := by
  induction xs with
  | nil => exact h2
  | cons x r ih =>
    rw [deeps] at h
    rw [List.cons_append, deeps]; have := ih (by omega); omega
theorem flats_rep {xs : List D} (h : flats xs = true) (k : Nat) : flats (List.replicate k xs).flatten = true := by
  induction k with
  | zero => rw [List.replicate_zero, List.flatten_nil, flats]
  | succ k ih => rw [List.replicate_succ, List.flatten_cons]; exact flats_app h ih
theorem deeps_rep {xs : List D} {b : Nat} (h : deeps xs ≤ b) (k : Nat) : deeps (List.replicate k xs).flatten ≤ b := by
  induction k with
  | zero => rw [List.replicate_zero, List.flatten_nil, deeps]; omega
  | succ k ih => rw [List.replicate_succ, List.flatten_cons]; exact deeps_app h ih
def F_shortest : FD := fun ds Q => ∃ xs, ds = [.tup xs] ∧ flats xs = true ∧ deeps xs ≤ 20 ∧ xs.length ≤ 1000 ∧ Q (.tup (shortD xs))
def T_shortest : DTS := (dSeq (dFor (dRange2 (dCons (dC (.int 1)) (dCons (dCB dLen (dCons (dVar 0) dNil)) dNil))) (dName 1) (dIfS (dtAnd (dTest (dBin dEq (dBin dMod (dCB dLen (dCons (dVar 0) dNil)) (dVar 1)) (dC (.int 0)))) (dTest (dBin dEq (dBin dMul (dSl (dVar 0) dNoPart (dPart (dVar 1))) (dBin dFdiv (dCB dLen (dCons (dVar 0) dNil)) (dVar 1))) (dVar 0)))) (dRet (dSl (dVar 0) dNoPart (dPart (dVar 1)))) dNext))
    (dRet (dVar 0)))
theorem rd_shortest : ∀ ds Q, ds.length = 1 → F_shortest ds Q → T_shortest { nx := fun _ => Q .non, rt := Q } (startD 2 ds) := by
  rintro ds Q _ ⟨xs, rfl, hf, hd, hl, hq⟩
  unfold T_shortest dFor dRange2
  walk_at "rd"
  refine ⟨⟨by decide, by decide, by omega, by omega⟩, ?_⟩
  rw [range_up, show (((xs.length : Nat) : Int) - 1).toNat = xs.length - 1 by omega]
  refine forW_up D.int (fun us δ => ∃ (j : Nat) (o : Option D), δ = [some (.tup xs), o] ∧ us = upFrom (j + 1) (xs.length - 1 - j) ∧ j ≤ xs.length - 1 ∧ ∀ i, i < j → shortTest xs i = false) (fun x us δ hI N hN => ?_) (fun δ hI => ?_) _ _ ⟨0, none, rfl, by simp, Nat.zero_le _, fun i h => absurd h (Nat.not_lt_zero i)⟩
  · obtain ⟨j, o, rfl, h2, h3, h4⟩ := hI
    obtain ⟨i, hi, rfl, hxs⟩ := upFrom_succ h2
    walk_at "rd"
    refine ⟨by omega, cmp_int _, cmp_int _, ?_⟩
    rw [eqD_int]
    have em : (((xs.length : Nat) : Int) % ((j : Int) + 1) = 0) ↔ xs.length % (j + 1) = 0 := by
      have : ((xs.length : Nat) : Int) % ((j : Int) + 1) = ((xs.length % (j + 1) : Nat) : Int) := by simp
      rw [this]
      omega
    have next : shortTest xs j = false → N [some (.tup xs), some (.int ((j : Int) + 1))] := fun ht => hN _ ⟨j + 1, _, rfl, by rw [hxs, show xs.length - 1 - (j + 1) = i by omega]; rfl, by omega, fun k hk => by
      rcases Nat.lt_succ_iff_lt_or_eq.mp hk with hk | hk
      · exact h4 k hk
      · rw [hk]; exact ht⟩
    by_cases hm : xs.length % (j + 1) = 0
    · simp only [em.mpr hm, decide_true, if_true]
      rw [cut0 _ _ (by omega)]
      have ej : ((j : Int) + 1).toNat = j + 1 := by omega
      have ed : ((xs.length : Nat) : Int) / ((j : Int) + 1) = ((xs.length / (j + 1) : Nat) : Int) := by simp
      have h22 : 2 ≤ xs.length / (j + 1) := by
        rw [Nat.le_div_iff_mul_le (by omega)]
        obtain ⟨c, hc⟩ := Nat.dvd_of_mod_eq_zero hm
        have : 2 ≤ c := by
          rcases Nat.lt_or_ge c 2 with z | z
          · have : c = 0 ∨ c = 1 := by omega
            rcases this with z | z
            · subst z; omega
            · subst z; omega
          · exact z
        calc 2 * (j + 1) ≤ c * (j + 1) := Nat.mul_le_mul_right _ this
          _ = (j + 1) * c := Nat.mul_comm _ _
          _ ≤ xs.length := Nat.le_of_eq hc.symm
      have hub : xs.length / (j + 1) ≤ 1000 := Nat.le_trans (Nat.div_le_self _ _) hl
      have b60 : (1000 : Int) ≤ 10 ^ 60 := by decide +kernel
      refine ⟨⟨by omega, log_ok (by omega) (by omega)⟩, ?_⟩
      rw [ej, ed]
      refine ⟨⟨?_, by omega, by omega, by rw [List.length_take]; omega⟩, ?_⟩
      · intro z
        have := congrArg List.length z
        rw [List.length_take] at this
        simp only [List.length_nil] at this
        omega
      rw [Int.toNat_natCast]
      refine ⟨cmp_tup (flats_rep (flats_take hf _) _) (Nat.le_trans (deeps_rep (deeps_take hd _) _) (by decide)), cmp_tup hf (by omega), ?_⟩
      rw [eqD_tup]
      have et : shortTest xs j = PyData.eqvAll (toPys (List.replicate (xs.length / (j + 1)) (xs.take (j + 1))).flatten) (toPys xs) := by
        unfold shortTest
        rw [hm]; rfl
      cases ht : shortTest xs j with
      | true =>
        rw [← et, ht]
        simp only [if_true]
        unfold shortD at hq
        rw [find_some (by omega) ht h4] at hq
        exact hq
      | false =>
        rw [← et, ht]
        simp only [Bool.false_eq_true, if_false]
        exact next ht
    · have : ¬ (((xs.length : Nat) : Int) % ((j : Int) + 1) = 0) := fun z => hm (em.mp z)
      simp only [this, decide_false, Bool.false_eq_true, if_false]
      refine next ?_
      unfold shortTest
      rw [beq_eq_false_iff_ne.mpr hm]; rfl
  · obtain ⟨j, o, rfl, h2, h3, h4⟩ := hI
    have := upFrom_nil h2
    walk_at "rd"
    unfold shortD at hq
    rw [find_none fun i hi => h4 i (by omega)] at hq
    exact hq
def F_steady_truths : FD := fun ds Q => ∃ (row : List Bool) (size : Nat), ds = [.lst (row.map .bl), .int size] ∧ 1 ≤ size ∧ size ≤ 100 ∧ size ≤ row.length ∧ row.length ≤ 5000 ∧ Q (truthsD (steadyT row size))
def T_steady_truths : DTS := (dSeq (dPar 2 3 (dCB dTupleOf (dCons (dSl (dVar 0) dNoPart (dPart (dUn dNeg (dVar 1)))) dNil)) (dCall 1 F_shortest (dCons (dCB dTupleOf (dCons (dSl (dVar 0) (dPart (dUn dNeg (dVar 1))) dNoPart) dNil)) dNil)))
    (dSeq (dWhile (dtAnd (dTest (dBin dNe (dVar 2) (dTup dNil))) (dTest (dBin dEq (dBin dIx (dVar 2) (dUn dNeg (dC (.int 1)))) (dBin dIx (dVar 3) (dUn dNeg (dC (.int 1))))))) (dPar 2 3 (dSl (dVar 2) dNoPart (dPart (dUn dNeg (dC (.int 1))))) (dBin dAdd (dSl (dVar 3) (dPart (dUn dNeg (dC (.int 1)))) dNoPart) (dSl (dVar 3) dNoPart (dPart (dUn dNeg (dC (.int 1))))))))
    (dRet (dTup (dCons (dVar 2) (dCons (dVar 3) dNil))))))
theorem shortL_ne {α : Type} [BEq α] {xs : List α} (h : xs ≠ []) : shortL xs ≠ [] ∧ (shortL xs).length ≤ xs.length := by
  unfold shortL
  split
  · refine ⟨fun z => h ?_, ?_⟩
    · cases xs with
      | nil => rfl
      | cons x r => rw [List.take_succ_cons] at z; cases z
    · rw [List.length_take]; omega
  · exact ⟨h, Nat.le_refl _⟩
theorem flats_bl (l : List Bool) : flats (l.map .bl) = true := flats_map flat_bl l
theorem deeps_bl (l : List Bool) : deeps (l.map .bl) ≤ 0 := deeps_map (fun b => by rw [deep]; omega; all_goals exact fun _ z => nomatch z) l
theorem rd_steady_truths : ∀ ds Q, ds.length = 2 → F_steady_truths ds Q → T_steady_truths { nx := fun _ => Q .non, rt := Q } (startD 4 ds) := by
  rintro ds Q _ ⟨row, size, rfl, h1, h2, h3, h4, hq⟩
  unfold T_steady_truths
  walk_at "rd"
  rw [cut_toNeg _ size h1, cut_fromNeg _ size h1, List.length_map, ← List.map_take, ← List.map_drop]
  refine ⟨trivial, _, rfl, flats_bl _, Nat.le_trans (deeps_bl _) (by decide), by rw [List.length_map, List.length_drop]; omega, ?_⟩
  rw [shortD_map eqD_bl]
  have hne : row.drop (row.length - size) ≠ [] := fun z => by
    have := congrArg List.length z
    rw [List.length_drop] at this
    simp only [List.length_nil] at this
    omega
  have hsh := shortL_ne hne
  unfold dWhile
  refine ⟨fun m δ => ∃ (er gr : List Bool), m = er.length ∧ δ = [some (.lst (row.map .bl)), some (.int size), some (.tup (er.reverse.map .bl)), some (.tup (gr.reverse.map .bl))] ∧ gr ≠ [] ∧ gr.length ≤ 5000 ∧ ((rollR (fun l _ e => e == l) er gr).1.reverse, (rollR (fun l _ e => e == l) er gr).2.reverse) = steadyT row size,
    ⟨_, (row.take (row.length - size)).reverse, (shortL (row.drop (row.length - size))).reverse, rfl, by rw [List.reverse_reverse, List.reverse_reverse], by simpa using hsh.1, ?_, rfl⟩, ?_⟩
  · have := hsh.2
    rw [List.length_drop] at this
    rw [List.length_reverse]
    omega
  rintro m δ ⟨er, gr, rfl, rfl, hg, hgl, hT⟩
  walk_at "rd"
  refine ⟨by decide, cmp_tup (flats_bl _) (Nat.le_trans (deeps_bl _) (by decide)), cmp_tup (by rw [flats]) (by rw [deeps]; decide), ?_⟩
  have e0 : eqD (.tup (er.reverse.map .bl)) (.tup []) = (er.reverse == []) := by
    rw [eqD_tup]
    exact eqvAll_map eqD_bl er.reverse []
  rw [e0]
  match gr, hg with
  | l :: gs, _ =>
    cases er with
    | nil =>
      simp only [List.reverse_nil, BEq.rfl, Bool.not_true, Bool.false_eq_true, if_false]
      refine ⟨by decide, ?_⟩
      have : Q (truthsD (steadyT row size)) := hq
      rw [← hT] at this
      exact this
    | cons e es =>
      have e1 : ((e :: es).reverse == ([] : List Bool)) = false := by rw [beq_eq_false_iff_ne]; simp
      rw [e1]
      simp only [Bool.not_false, if_true]
      rw [atI_neg1 (List.map D.bl (e :: es).reverse) (.bl e) (by rw [List.getLast?_map, getLast_rev]; rfl), atI_neg1 (List.map D.bl (l :: gs).reverse) (.bl l) (by rw [List.getLast?_map, getLast_rev]; rfl)]
      simp only []
      refine ⟨cmp_bl _, cmp_bl _, ?_⟩
      rw [eqD_bl]
      rw [rollR] at hT
      · by_cases hs : (e == l) = true
        · rw [if_pos hs] at hT
          rw [if_pos hs, cut_neg1, cut_fneg1, cut_neg1, ← List.map_dropLast, dropLast_rev, ← List.map_dropLast, dropLast_rev, List.length_map, ← List.map_drop]
          have ed : (l :: gs).reverse.drop ((l :: gs).reverse.length - 1) = [l] := by
            rw [List.reverse_cons, List.length_append, List.length_singleton, Nat.add_sub_cancel, List.drop_left]
          rw [ed]
          refine ⟨?_, es.length, by rw [List.length_cons]; omega, es, gs ++ [l], rfl, ?_, by simp, ?_, hT⟩
          · have := small_size (n := 5001) (by decide)
            rw [List.length_cons] at hgl
            simp only [List.length_map, List.length_reverse, List.length_cons, List.length_nil]
            omega
          · rw [List.reverse_append]
            rfl
          · rw [List.length_cons] at hgl
            rw [List.length_append, List.length_singleton]
            exact hgl
        · rw [if_neg hs] at hT
          rw [if_neg hs]
          refine ⟨by decide, ?_⟩
          have : Q (truthsD (steadyT row size)) := hq
          rw [← hT] at this
          exact this

end Gf
namespace Gf
open PySem PySem.Spec PyProof.Rows L2
local macro_rules | `(tactic| walk_at "rd") => `(tactic| simp only [dSeq, dSet, dVar, dC, dRet, dIfS, dtOr, dtAnd, dtNot, dTest, dNot, dAnd, dOr, dIf, dBin, dUn, dCall, dCons, dNil, dCB, dTup, dLst, dDrop, dNext, dPart, dNoPart, dSl, dItems, dName, dgTup, dgCons, dgNil, dYes, dAsg, dPar, dIx, dAdd, dSub, dMul, dFdiv, dMod, dPow, dLt, dLe, dGt, dGe, dNeg, dEq, dNe, dIsN, dNotN, dChain, dIsi, dLen, dTupleOf, dListOf, dAll, dAbs, dInt, startD, dAt_zero, dAt_succ, isN,
  List.map_cons, List.map_nil, List.cons_append, List.nil_append, List.length_cons, List.length_nil, List.set_cons_zero, List.set_cons_succ, List.replicate_succ, List.replicate_zero, Nat.zero_add, Nat.reduceAdd, Nat.reduceSub, List.append_nil])
local macro_rules | `(tactic| walk_at "ev") => `(tactic| (repeat' (first | exact ev_c | exact ea_nil | exact ev_var rfl | refine ea_cons ?_ ?_ | refine ev_tup ?_ (by decide) | refine ev_lst ?_ (by decide) | refine ev_neg ?_ | refine ev_add ?_ ?_ | refine ev_sub ?_ ?_ | refine ev_mul ?_ ?_ (.inl (.inl ⟨by decide, by decide⟩)) | refine ev_addL ?_ ?_ (by decide) | refine ev_addT ?_ ?_ (by decide))))

def F_struck : FD := fun ds Q => ∃ m, ds = [mintD m] ∧ okMint m = true ∧ Q (truthsD (steadyT (rowT (struckB m) 39) 1))
def T_struck : DTS := (dSeq (dDrop (dCall 1 F_look_at_mint (dCons (dVar 0) dNil)))
    (dRet (dCall 2 F_steady_truths (dCons (dLc (dRange2 (dCons (dC (.int 1)) (dCons (dC (.int 40)) dNil))) (dName 1) dYes (dCall 2 F_struck_by (dCons (dVar 0) (dCons (dVar 1) dNil))) [1]) (dCons (dC (.int 1)) dNil)))))
theorem rd_struck : ∀ ds Q, ds.length = 1 → F_struck ds Q → T_struck { nx := fun _ => Q .non, rt := Q } (startD 2 ds) := by
  rintro ds Q _ ⟨m, rfl, hm, hq⟩
  unfold T_struck dLc dRange2
  walk_at "rd"
  simp only [wipeD]
  walk_at "rd"
  refine ⟨trivial, m, rfl, hm, ?_⟩
  refine ⟨⟨by decide, by decide, by decide, by decide⟩, ?_⟩
  rw [range_up]
  refine lcW_map D.int (fun n => match n with | n => .bl (struckB m n)) _ (fun n hn Kt hk => ?_) (small_size (by rw [upFrom_len]; decide)) ?_
  · walk_at "rd"
    exact ⟨trivial, m, n, rfl, okMint_small hm, hk⟩
  · walk_at "rd"
    refine ⟨trivial, rowT (struckB m) 39, 1, ?_, by decide, by decide, by rw [rowT_up, List.length_map, upFrom_len]; decide, by rw [rowT_up, List.length_map, upFrom_len]; decide, hq⟩
    rw [rowT_up, List.map_map]
    rfl
def F_right : FD := fun ds Q => ∃ m, ds = [mintD m] ∧ okMint m = true ∧ Q (truthsD (steadyT (rightRow m) (sizeOf' m)))
def T_right : DTS := (dSeq (dDrop (dCall 1 F_look_at_mint (dCons (dVar 0) dNil)))
    (dRet (dCall 2 F_steady_truths (dCons (dCall 1 F_right_row (dCons (dVar 0) dNil)) (dCons (dCall 1 F_size_of (dCons (dVar 0) dNil)) dNil)))))
theorem rightRow_len (m : Mint) : (rightRow m).length = 1000 + sizeOf' m := by unfold rightRow rowT; simp
theorem rd_right : ∀ ds Q, ds.length = 1 → F_right ds Q → T_right { nx := fun _ => Q .non, rt := Q } (startD 1 ds) := by
  rintro ds Q _ ⟨m, rfl, hm, hq⟩
  have hz := sizeOf_bd hm
  unfold T_right
  walk_at "rd"
  refine ⟨trivial, m, rfl, hm, ?_⟩
  refine ⟨trivial, m, rfl, hm, ?_⟩
  refine ⟨trivial, m, rfl, hm, ?_⟩
  refine ⟨trivial, rightRow m, sizeOf' m, rfl, by omega, by omega, by rw [rightRow_len]; omega, by rw [rightRow_len]; omega, hq⟩
def F_always_by : FD := fun ds Q => ∃ m, ds = [mintD m] ∧ okMint m = true ∧ Q (.bl (alwaysB m))
def T_always_by : DTS := (dSeq (dFor (dRange2 (dCons (dC (.int 1)) (dCons (dBin dAdd (dBin dAdd (dC (.int 1000)) (dCall 1 F_size_of (dCons (dVar 0) dNil))) (dC (.int 1))) dNil))) (dName 1) (dIfS (dtAnd (dTest (dCall 2 F_struck_by (dCons (dVar 0) (dCons (dVar 1) dNil)))) (dtNot (dTest (dCall 2 F_right_by (dCons (dVar 0) (dCons (dVar 1) dNil)))))) (dRet (dC (.bl false))) dNext))
    (dRet (dC (.bl true))))
theorem rd_always_by : ∀ ds Q, ds.length = 1 → F_always_by ds Q → T_always_by { nx := fun _ => Q .non, rt := Q } (startD 2 ds) := by
  rintro ds Q _ ⟨m, rfl, hm, hq⟩
  have hz := sizeOf_bd hm
  have := p30
  unfold T_always_by dFor dRange2
  walk_at "rd"
  refine ⟨trivial, m, rfl, hm, ?_⟩
  refine ⟨⟨by decide, by decide, by omega, by omega⟩, ?_⟩
  rw [range_up, show (1000 + ((sizeOf' m : Nat) : Int) + 1 - 1).toNat = 1000 + sizeOf' m by omega]
  have e : alwaysB m = (List.range (1000 + sizeOf' m)).all fun i => !(struckB m ((i + 1 : Nat) : Int)) || rightB m ((i + 1 : Nat) : Int) := rfl
  refine forW_up D.int (fun us δ => ∃ (j : Nat) (o : Option D), δ = [some (mintD m), o] ∧ us = upFrom (j + 1) (1000 + sizeOf' m - j) ∧ j ≤ 1000 + sizeOf' m ∧ ∀ i, i < j → (!(struckB m ((i + 1 : Nat) : Int)) || rightB m ((i + 1 : Nat) : Int)) = true) (fun x us δ hI N hN => ?_) (fun δ hI => ?_) _ _ ⟨0, none, rfl, by simp, Nat.zero_le _, fun i h => absurd h (Nat.not_lt_zero i)⟩
  · obtain ⟨j, o, rfl, h2, h3, h4⟩ := hI
    obtain ⟨i, hi, rfl, hxs⟩ := upFrom_succ h2
    have ej : ((j : Int) + 1) = ((j + 1 : Nat) : Int) := by omega
    rw [ej]
    have next : (!(struckB m ((j + 1 : Nat) : Int)) || rightB m ((j + 1 : Nat) : Int)) = true → N [some (mintD m), some (.int ((j + 1 : Nat) : Int))] := fun ht => hN _ ⟨j + 1, _, rfl, by rw [hxs, show 1000 + sizeOf' m - (j + 1) = i by omega]; rfl, by omega, fun k hk => by
      rcases Nat.lt_succ_iff_lt_or_eq.mp hk with hk | hk
      · exact h4 k hk
      · rw [hk]; exact ht⟩
    walk_at "rd"
    refine ⟨trivial, m, _, rfl, okMint_small hm, ?_⟩
    cases hs : struckB m ((j + 1 : Nat) : Int) with
    | false =>
      simp only [Bool.false_eq_true, if_false]
      exact next (by rw [hs]; rfl)
    | true =>
      simp only [if_true]
      refine ⟨trivial, m, _, rfl, ⟨hm, by omega, by omega⟩, ?_⟩
      cases hr : rightB m ((j + 1 : Nat) : Int) with
      | true =>
        simp only [Bool.not_true, Bool.false_eq_true, if_false]
        exact next (by rw [hr, Bool.or_true])
      | false =>
        simp only [Bool.not_false, if_true]
        have : alwaysB m = false := by
          rw [e]
          refine Bool.eq_false_iff.mpr fun z => ?_
          have := List.all_eq_true.mp z j (List.mem_range.mpr (by omega))
          rw [hs, hr] at this
          cases this
        rw [this] at hq
        exact hq
  · obtain ⟨j, o, rfl, h2, h3, h4⟩ := hI
    have := upFrom_nil h2
    walk_at "rd"
    have : alwaysB m = true := by
      rw [e]
      refine List.all_eq_true.mpr fun i hi => h4 i ?_
      have := List.mem_range.mp hi
      omega
    rw [this] at hq
    exact hq
def F_always_right : FD := F_always_by
def T_always_right : DTS := (dSeq (dDrop (dCall 1 F_look_at_mint (dCons (dVar 0) dNil)))
    (dRet (dCall 1 F_always_by (dCons (dVar 0) dNil))))
theorem rd_always_right : ∀ ds Q, ds.length = 1 → F_always_right ds Q → T_always_right { nx := fun _ => Q .non, rt := Q } (startD 1 ds) := by
  rintro ds Q _ ⟨m, rfl, hm, hq⟩
  unfold T_always_right
  walk_at "rd"
  refine ⟨trivial, m, rfl, hm, ?_⟩
  exact ⟨trivial, m, rfl, hm, hq⟩
def bdF (f : Form) : Prop := 0 ≤ f.2.2 ∧ f.2.2 ≤ 1000
def F_is_told : FD := fun ds Q => ∃ (f : Option Form) (n : Int) (x : Option Int), ds = [optD formD f, .int n, optD .int x] ∧ (∀ g, f = some g → bdF g) ∧ (0 ≤ n ∧ n ≤ 100000) ∧ Q (.bl (isTold f n x))
def T_is_told : DTS := (dSeq (dIfS (dtOr (dTest (dBin dIsN (dVar 0) (dC .non))) (dTest (dBin dIsN (dVar 2) (dC .non)))) (dRet (dAnd (dBin dIsN (dVar 0) (dC .non)) (dBin dIsN (dVar 2) (dC .non)))) dNext)
    (dRet (dBin dEq (dBin dAdd (dBin dMul (dBin dIx (dVar 0) (dC (.int 0))) (dVar 1)) (dBin dIx (dVar 0) (dC (.int 1)))) (dBin dMul (dVar 2) (dBin dIx (dVar 0) (dC (.int 2)))))))
theorem rd_is_told : ∀ ds Q, ds.length = 3 → F_is_told ds Q → T_is_told { nx := fun _ => Q .non, rt := Q } (startD 3 ds) := by
  rintro ds Q _ ⟨f, n, x, rfl, hb, hn, hq⟩
  unfold T_is_told
  walk_at "rd"
  cases f with
  | none =>
    cases x with
    | none => exact hq
    | some v => exact hq
  | some g =>
    cases x with
    | none => exact hq
    | some v =>
      have hg := hb g rfl
      unfold optD formD
      simp only [Bool.false_eq_true, if_false, at0, at1, at2]
      refine ⟨.inl (.inr ⟨by omega, by omega⟩), .inl (.inr ⟨by have := hg.1; omega, by have := hg.2; omega⟩), cmp_int _, cmp_int _, ?_⟩
      rw [eqD_int]
      exact hq
def F_divisor : FD := fun ds Q => ∃ a b, ds = [.int a, .int b] ∧ Q (.int (divisorB a b))
def T_divisor : DTS := (dSeq (dPar 0 1 (dCB dAbs (dCons (dVar 0) dNil)) (dCB dAbs (dCons (dVar 1) dNil)))
    (dSeq (dWhile (dTest (dBin dNe (dVar 1) (dC (.int 0)))) (dPar 0 1 (dVar 1) (dBin dMod (dVar 0) (dVar 1))))
    (dRet (dVar 0))))
theorem abs_if (a : Int) : (if a < 0 then -a else a) = ((a.natAbs : Nat) : Int) := by split <;> omega
theorem rd_divisor : ∀ ds Q, ds.length = 2 → F_divisor ds Q → T_divisor { nx := fun _ => Q .non, rt := Q } (startD 2 ds) := by
  rintro ds Q _ ⟨a, b, rfl, hq⟩
  unfold T_divisor
  walk_at "rd"
  rw [abs_if, abs_if]
  unfold dWhile
  refine ⟨fun k δ => ∃ x y : Nat, k = y ∧ δ = [some (.int (x : Nat)), some (.int (y : Nat))] ∧ Nat.gcd x y = Nat.gcd a.natAbs b.natAbs, ⟨_, _, _, rfl, rfl, rfl⟩, ?_⟩
  rintro k δ ⟨x, y, hk, rfl, hg⟩
  walk_at "rd"
  refine ⟨cmp_int _, cmp_int _, ?_⟩
  rw [eqD_int]
  by_cases hy : y = 0
  · subst hy
    simp only [Int.natCast_zero, decide_true, Bool.not_true, Bool.false_eq_true, if_false]
    unfold divisorB at hq
    rw [Nat.gcd_zero_right] at hg
    rw [hg]
    exact hq
  · have : ¬ (((y : Nat) : Int) = 0) := by omega
    simp only [this, decide_false, Bool.not_false, if_true]
    refine ⟨by omega, x % y, by rw [hk]; exact Nat.mod_lt _ (by omega), y, x % y, rfl, ?_, ?_⟩
    · simp
    · rw [← hg, Nat.gcd_comm x y, Nat.gcd_rec y x, Nat.gcd_comm]
def F_lowest : FD := fun ds Q => ∃ t p b, ds = [.int t, .int p, .int b] ∧ (1 ≤ b ∧ b ≤ 1000) ∧ Q (formD (lowestB t p b))
def T_lowest : DTS := (dSeq (dSet 3 (dCall 2 F_divisor (dCons (dCall 2 F_divisor (dCons (dVar 0) (dCons (dVar 1) dNil))) (dCons (dVar 2) dNil))))
    (dRet (dTup (dCons (dBin dFdiv (dVar 0) (dVar 3)) (dCons (dBin dFdiv (dVar 1) (dVar 3)) (dCons (dBin dFdiv (dVar 2) (dVar 3)) dNil))))))
theorem divisor_bd {x b : Int} (h : 1 ≤ b) : 1 ≤ divisorB x b ∧ divisorB x b ≤ b := by
  unfold divisorB
  have h1 : 0 < Nat.gcd x.natAbs b.natAbs := Nat.gcd_pos_of_pos_right _ (by omega)
  have h2 : Nat.gcd x.natAbs b.natAbs ≤ b.natAbs := Nat.gcd_le_right _ (by omega)
  omega
theorem rd_lowest : ∀ ds Q, ds.length = 3 → F_lowest ds Q → T_lowest { nx := fun _ => Q .non, rt := Q } (startD 4 ds) := by
  rintro ds Q _ ⟨t, p, b, rfl, hb, hq⟩
  have hd := divisor_bd (x := divisorB t p) hb.1
  have b60 : (1000 : Int) ≤ 10 ^ 60 := by decide +kernel
  unfold T_lowest
  walk_at "rd"
  refine ⟨trivial, t, p, rfl, ?_⟩
  refine ⟨trivial, _, b, rfl, ?_⟩
  walk_at "rd"
  exact ⟨divOk ⟨by omega, by omega⟩, divOk ⟨by omega, by omega⟩, divOk ⟨by omega, by omega⟩, by decide, hq⟩
def F_form_by : FD := fun ds Q => ∃ (n : Int) (x y : Option Int) (s : Int), ds = [.int n, optD .int x, optD .int y, .int s] ∧ (1 ≤ s ∧ s ≤ 1000) ∧ (0 ≤ n ∧ n ≤ 100000) ∧ (y = none → x = none) ∧ Q (optD formD (formBy n x y s))
def T_form_by : DTS := (dSeq (dIfS (dTest (dBin dIsN (dVar 1) (dC .non))) (dRet (dC .non)) dNext)
    (dRet (dCall 3 F_lowest (dCons (dBin dSub (dVar 2) (dVar 1)) (dCons (dBin dSub (dBin dMul (dVar 1) (dVar 3)) (dBin dMul (dBin dSub (dVar 2) (dVar 1)) (dVar 0))) (dCons (dVar 3) dNil))))))
theorem rd_form_by : ∀ ds Q, ds.length = 4 → F_form_by ds Q → T_form_by { nx := fun _ => Q .non, rt := Q } (startD 4 ds) := by
  rintro ds Q _ ⟨n, x, y, s, rfl, hs, hn, hxy, hq⟩
  unfold T_form_by
  walk_at "rd"
  cases x with
  | none => exact hq
  | some v =>
    cases y with
    | none => exact absurd (hxy rfl) (by simp)
    | some u =>
      unfold optD
      simp only [Bool.false_eq_true, if_false]
      exact ⟨.inl (.inr ⟨by omega, by omega⟩), .inl (.inr ⟨by omega, by omega⟩), trivial, _, _, _, rfl, hs, hq⟩

end Gf
namespace Gf
open PySem PySem.Spec PyProof.Rows L2
local macro_rules | `(tactic| walk_at "rd") => `(tactic| simp only [dSeq, dSet, dVar, dC, dRet, dIfS, dtOr, dtAnd, dtNot, dTest, dNot, dAnd, dOr, dIf, dBin, dUn, dCall, dCons, dNil, dCB, dTup, dLst, dDrop, dNext, dPart, dNoPart, dSl, dItems, dName, dgTup, dgCons, dgNil, dYes, dAsg, dPar, dIx, dAdd, dSub, dMul, dFdiv, dMod, dPow, dLt, dLe, dGt, dGe, dNeg, dEq, dNe, dIsN, dNotN, dChain, dIsi, dLen, dTupleOf, dListOf, dAll, dAbs, dInt, startD, dAt_zero, dAt_succ, isN,
  List.map_cons, List.map_nil, List.cons_append, List.nil_append, List.length_cons, List.length_nil, List.set_cons_zero, List.set_cons_succ, List.replicate_succ, List.replicate_zero, Nat.zero_add, Nat.reduceAdd, Nat.reduceSub, List.append_nil])
local macro_rules | `(tactic| walk_at "ev") => `(tactic| (repeat' (first | exact ev_c | exact ea_nil | exact ev_var rfl | refine ea_cons ?_ ?_ | refine ev_tup ?_ (by decide) | refine ev_lst ?_ (by decide) | refine ev_neg ?_ | refine ev_add ?_ ?_ | refine ev_sub ?_ ?_ | refine ev_mul ?_ ?_ (.inl (.inl ⟨by decide, by decide⟩)) | refine ev_addL ?_ ?_ (by decide) | refine ev_addT ?_ ?_ (by decide))))

theorem eqD_non : eqD .non .non = true := by unfold eqD; simp [toPy, PyData.eqv]
theorem eqD_non_tup (xs : List D) : eqD .non (.tup xs) = false := by unfold eqD; simp [toPy, PyData.eqv]
theorem eqD_tup_non (xs : List D) : eqD (.tup xs) .non = false := by unfold eqD; simp [toPy, PyData.eqv]
theorem eqD_form (a b : Form) : eqD (formD a) (formD b) = (a == b) := by
  unfold formD
  rw [eqD_tup, eqvAll_cons, eqvAll_cons, eqvAll_cons, eqvAll_nil, eqD_int, eqD_int, eqD_int, Bool.and_true]
  rfl
theorem eqD_optForm (a b : Option Form) : eqD (optD formD a) (optD formD b) = (a == b) := by
  cases a with
  | none =>
    cases b with
    | none => exact eqD_non
    | some g => exact eqD_non_tup _
  | some f =>
    cases b with
    | none => exact eqD_tup_non _
    | some g => exact eqD_form f g
theorem flat_optForm (a : Option Form) : flat (optD formD a) = true := by
  cases a with
  | none => unfold optD; rw [flat]
  | some f => unfold optD formD; simp [flat, flats]
theorem deep_optForm (a : Option Form) : deep (optD formD a) ≤ 1 := by
  cases a with
  | none => unfold optD; rw [deep]; omega; all_goals exact fun _ z => nomatch z
  | some f => unfold optD formD; simp [deep, deeps]
theorem flat_optInt (a : Option Int) : flat (optD .int a) = true := by
  cases a with
  | none => unfold optD; rw [flat]
  | some f => unfold optD; rw [flat]
theorem deep_optInt (a : Option Int) : deep (optD .int a) ≤ 0 := by
  cases a with
  | none => unfold optD; rw [deep]; omega; all_goals exact fun _ z => nomatch z
  | some f => unfold optD; rw [deep]; omega; all_goals exact fun _ z => nomatch z
theorem formBy_bd {n : Int} {x y : Option Int} {s : Int} (hs : 1 ≤ s ∧ s ≤ 1000) : ∀ g, formBy n x y s = some g → bdF g := fun g h => by
  unfold formBy at h
  split at h
  · rename_i v u
    injection h with h
    subst h
    have hd := divisor_bd (x := divisorB (u - v) (v * s - (u - v) * n)) hs.1
    unfold lowestB bdF
    simp only
    have := div_le (a := s) (w := divisorB (divisorB (u - v) (v * s - (u - v) * n)) s) (by omega) (by omega)
    omega
  · cases h
def okRow (row : List (Option Int)) (size : Nat) : Prop := ∀ i, i < size → row.getD (row.length - 2 * size + i + size) none = none → row.getD (row.length - 2 * size + i) none = none
def lastForms (row : List (Option Int)) (size j : Nat) : List (Option Form) := (List.range j).map fun i => formBy ((row.length - 2 * size + i + 1 : Nat) : Int) (row.getD (row.length - 2 * size + i) none) (row.getD (row.length - 2 * size + i + size) none) (size : Nat)
theorem lastForms_snoc (row : List (Option Int)) (size j : Nat) : lastForms row size (j + 1) = lastForms row size j ++ [formBy ((row.length - 2 * size + j + 1 : Nat) : Int) (row.getD (row.length - 2 * size + j) none) (row.getD (row.length - 2 * size + j + size) none) (size : Nat)] := by
  unfold lastForms
  rw [List.range_succ, List.map_append]; rfl
theorem lastForms_len (row : List (Option Int)) (size j : Nat) : (lastForms row size j).length = j := by unfold lastForms; simp
theorem shortL_sub {α : Type} [BEq α] {xs : List α} : ∀ x ∈ shortL xs, x ∈ xs := by
  unfold shortL
  split
  · intro x hx; exact List.mem_of_mem_take hx
  · exact fun x hx => hx
def F_steady_numbers : FD := fun ds Q => ∃ (row : List (Option Int)) (size : Nat), ds = [.lst (row.map (optD .int)), .int size] ∧ (1 ≤ size ∧ size ≤ 100) ∧ 2 * size ≤ row.length ∧ row.length ≤ 5000 ∧ okRow row size ∧ Q (formsD (steadyN row size))
def T_steady_numbers : DTS := (dSeq (dSet 2 (dBin dSub (dCB dLen (dCons (dVar 0) dNil)) (dBin dMul (dC (.int 2)) (dVar 1))))
    (dSeq (dSet 3 (dLst dNil))
    (dSeq (dFor (dRange2 (dCons (dVar 2) (dCons (dBin dAdd (dVar 2) (dVar 1)) dNil))) (dName 4) (dSet 3 (dBin dAdd (dVar 3) (dLst (dCons (dCall 4 F_form_by (dCons (dBin dAdd (dVar 4) (dC (.int 1))) (dCons (dBin dIx (dVar 0) (dVar 4)) (dCons (dBin dIx (dVar 0) (dBin dAdd (dVar 4) (dVar 1))) (dCons (dVar 1) dNil))))) dNil)))))
    (dSeq (dPar 5 3 (dCB dTupleOf (dCons (dSl (dVar 0) dNoPart (dPart (dVar 2))) dNil)) (dCall 1 F_shortest (dCons (dCB dTupleOf (dCons (dVar 3) dNil)) dNil)))
    (dSeq (dWhile (dtAnd (dTest (dBin dNe (dVar 5) (dTup dNil))) (dTest (dCall 3 F_is_told (dCons (dBin dIx (dVar 3) (dUn dNeg (dC (.int 1)))) (dCons (dCB dLen (dCons (dVar 5) dNil)) (dCons (dBin dIx (dVar 5) (dUn dNeg (dC (.int 1)))) dNil)))))) (dPar 5 3 (dSl (dVar 5) dNoPart (dPart (dUn dNeg (dC (.int 1))))) (dBin dAdd (dSl (dVar 3) (dPart (dUn dNeg (dC (.int 1)))) dNoPart) (dSl (dVar 3) dNoPart (dPart (dUn dNeg (dC (.int 1))))))))
    (dRet (dTup (dCons (dVar 5) (dCons (dVar 3) dNil)))))))))
theorem rd_steady_numbers : ∀ ds Q, ds.length = 2 → F_steady_numbers ds Q → T_steady_numbers { nx := fun _ => Q .non, rt := Q } (startD 6 ds) := by
  rintro ds Q _ ⟨row, size, rfl, hs, h3, h4, hok, hq⟩
  unfold T_steady_numbers dFor dRange2
  walk_at "rd"
  rw [List.length_map]
  refine ⟨.inl (.inl ⟨by decide, by decide⟩), by decide, ⟨by omega, by omega, by omega, by omega⟩, ?_⟩
  have eb : ((row.length : Nat) : Int) - 2 * ((size : Nat) : Int) = ((row.length - 2 * size : Nat) : Int) := by omega
  rw [eb, range_up, show (((row.length - 2 * size : Nat) : Int) + ((size : Nat) : Int) - ((row.length - 2 * size : Nat) : Int)).toNat = size by omega]
  have hN : (steadyN row size) = ((rollR (fun l k e => isTold l (k : Nat) e) (row.take (row.length - 2 * size)).reverse (shortL (lastForms row size size)).reverse).1.reverse, (rollR (fun l k e => isTold l (k : Nat) e) (row.take (row.length - 2 * size)).reverse (shortL (lastForms row size size)).reverse).2.reverse) := rfl
  generalize hB : row.length - 2 * size = B at *
  have hfl : ∀ j, flats ((lastForms row size j).map (optD formD)) = true := fun j => flats_map flat_optForm _
  have hdl : ∀ j, deeps ((lastForms row size j).map (optD formD)) ≤ 1 := fun j => deeps_map deep_optForm _
  refine forW_up D.int (fun us δ => ∃ (j : Nat) (o : Option D), δ = [some (.lst (row.map (optD .int))), some (.int (size : Nat)), some (.int (B : Nat)), some (.lst ((lastForms row size j).map (optD formD))), o, none] ∧ us = upFrom ((B + j : Nat) : Int) (size - j) ∧ j ≤ size) (fun x us δ hI N hN' => ?_) (fun δ hI => ?_) _ _ ⟨0, none, rfl, by simp, Nat.zero_le _⟩
  · obtain ⟨j, o, rfl, h5, h6⟩ := hI
    obtain ⟨i, hi, rfl, hxs⟩ := upFrom_succ h5
    walk_at "rd"
    have e1 : ((B + j : Nat) : Int) + ((size : Nat) : Int) = ((B + j + size : Nat) : Int) := by omega
    have e2 : ((B + j : Nat) : Int) + 1 = ((B + j + 1 : Nat) : Int) := by omega
    rw [e1, e2, atI_map (optD .int) row none _ (by omega) (by rw [Int.toNat_natCast]; omega), atI_map (optD .int) row none _ (by omega) (by rw [Int.toNat_natCast]; omega), Int.toNat_natCast, Int.toNat_natCast]
    simp only []
    refine ⟨trivial, _, _, _, _, rfl, ⟨by omega, by omega⟩, ⟨by omega, by omega⟩, ?_, ?_⟩
    · have := hok j (by omega)
      rw [hB] at this
      exact this
    · walk_at "rd"
      refine ⟨by decide, ?_, ?_⟩
      · have := small_size (n := 102) (by decide)
        rw [List.length_map, lastForms_len]
        omega
      · refine hN' _ ⟨j + 1, some (.int ((B + j : Nat) : Int)), ?_, by rw [hxs, show size - (j + 1) = i by omega]; congr 1, by omega⟩
        rw [lastForms_snoc, hB, List.map_append]
        rfl
  · obtain ⟨j, o, rfl, h5, h6⟩ := hI
    have := upFrom_nil h5
    have ej : j = size := by omega
    subst ej
    walk_at "rd"
    rw [cut0 _ _ (by omega), Int.toNat_natCast, ← List.map_take]
    refine ⟨trivial, _, rfl, hfl _, Nat.le_trans (hdl _) (by decide), by rw [List.length_map, lastForms_len]; omega, ?_⟩
    rw [shortD_map eqD_optForm]
    have hne : lastForms row j j ≠ [] := fun z => by
      have := congrArg List.length z
      rw [lastForms_len] at this
      simp only [List.length_nil] at this
      omega
    have hsh := shortL_ne hne
    rw [lastForms_len] at hsh
    unfold dWhile
    refine ⟨fun m δ => ∃ (er : List (Option Int)) (gr : List (Option Form)), m = er.length ∧ δ = [some (.lst (row.map (optD .int))), some (.int (j : Nat)), some (.int (B : Nat)), some (.tup (gr.reverse.map (optD formD))), o, some (.tup (er.reverse.map (optD .int)))] ∧ gr ≠ [] ∧ gr.length ≤ 5000 ∧ er.length ≤ 5000 ∧ (∀ f ∈ gr, ∀ g, f = some g → bdF g) ∧ ((rollR (fun l k e => isTold l (k : Nat) e) er gr).1.reverse, (rollR (fun l k e => isTold l (k : Nat) e) er gr).2.reverse) = steadyN row j,
      ⟨_, (row.take B).reverse, (shortL (lastForms row j j)).reverse, rfl, by rw [List.reverse_reverse, List.reverse_reverse], by simpa using hsh.1, ?_, ?_, ?_, hN.symm⟩, ?_⟩
    · rw [List.length_reverse]; omega
    · rw [List.length_reverse, List.length_take]; omega
    · intro f hf g hg
      subst hg
      have := shortL_sub _ (List.mem_reverse.mp hf)
      unfold lastForms at this
      obtain ⟨i, _, e⟩ := List.mem_map.mp this
      exact formBy_bd ⟨by omega, by omega⟩ g e
    rintro m δ ⟨er, gr, rfl, rfl, hg, hgl, hel, hbd, hT⟩
    walk_at "rd"
    refine ⟨by decide, cmp_tup (flats_map flat_optInt _) (Nat.le_trans (deeps_map deep_optInt _) (by decide)), cmp_tup (by rw [flats]) (by rw [deeps]; decide), ?_⟩
    have e0 : eqD (.tup (er.reverse.map (optD .int))) (.tup []) = decide (er = []) := by
      rw [eqD_tup]
      cases er with
      | nil => rw [List.reverse_nil, List.map_nil, eqvAll_nil]; rfl
      | cons e es =>
        rw [List.reverse_cons, List.map_append]
        cases es.reverse.map (optD .int) with
        | nil => rw [List.nil_append, List.map_cons, eqvAll_cn]; rfl
        | cons y ys => rw [List.cons_append, eqvAll_cn]; rfl
    rw [e0]
    match gr, hg with
    | l :: gs, _ =>
      cases er with
      | nil =>
        simp only [decide_true, Bool.not_true, Bool.false_eq_true, if_false]
        refine ⟨by decide, ?_⟩
        have : Q (formsD (steadyN row j)) := hq
        rw [← hT] at this
        exact this
      | cons e es =>
        have e1 : ¬ ((e :: es) = ([] : List (Option Int))) := fun z => nomatch z
        simp only [e1, decide_false, Bool.not_false, if_true]
        rw [atI_neg1 (List.map (optD .int) (e :: es).reverse) (optD .int e) (by rw [List.getLast?_map, getLast_rev]; rfl), atI_neg1 (List.map (optD formD) (l :: gs).reverse) (optD formD l) (by rw [List.getLast?_map, getLast_rev]; rfl)]
        simp only []
        rw [List.length_map, List.length_reverse]
        have hes : es.length + 1 ≤ 5000 := hel
        refine ⟨trivial, l, _, e, rfl, hbd l List.mem_cons_self, ⟨by omega, by rw [List.length_cons]; omega⟩, ?_⟩
        walk_at "rd"
        rw [rollR] at hT
        · skip
          by_cases hs' : isTold l ((es.length + 1 : Nat) : Int) e = true
          · rw [if_pos hs'] at hT
            rw [if_pos hs', cut_neg1, cut_fneg1, cut_neg1, ← List.map_dropLast, dropLast_rev, ← List.map_dropLast, dropLast_rev, List.length_map, ← List.map_drop]
            have ed : (l :: gs).reverse.drop ((l :: gs).reverse.length - 1) = [l] := by
              rw [List.reverse_cons, List.length_append, List.length_singleton, Nat.add_sub_cancel, List.drop_left]
            rw [ed]
            refine ⟨?_, es.length, Nat.lt_succ_self _, es, gs ++ [l], rfl, ?_, by simp, ?_, by omega, ?_, hT⟩
            · have := small_size (n := 5001) (by decide)
              rw [List.length_cons] at hgl
              simp only [List.length_map, List.length_reverse, List.length_cons, List.length_nil]
              omega
            · rw [List.reverse_append]
              rfl
            · rw [List.length_cons] at hgl
              rw [List.length_append, List.length_singleton]
              exact hgl
            · intro f hf
              refine hbd f ?_
              rcases List.mem_append.mp hf with h | h
              · exact List.mem_cons_of_mem _ h
              · rw [List.mem_singleton.mp h]; exact List.mem_cons_self
          · rw [if_neg hs'] at hT
            rw [if_neg hs']
            refine ⟨by decide, ?_⟩
            have : Q (formsD (steadyN row j)) := hq
            rw [← hT] at this
            exact this
def F_bad_row : FD := fun ds Q => ∃ m b, ds = [mintD m, .int (if b = true then 1 else 0)] ∧ okMint m = true ∧ Q (.lst ((badRow m b).map (optD .int)))
def T_bad_row : DTS := (dSeq (dSet 2 (dLc (dRange2 (dCons (dC (.int 1)) (dCons (dBin dAdd (dBin dAdd (dC (.int 1000)) (dBin dMul (dC (.int 2)) (dCall 1 F_size_of (dCons (dVar 0) dNil)))) (dC (.int 1))) dNil))) (dName 3) dYes (dCall 2 F_bad_of (dCons (dVar 0) (dCons (dVar 3) dNil))) [3]))
    (dRet (dLc (dItems (dVar 2)) (dName 4) dYes (dIf (dTest (dBin dIsN (dVar 4) (dC .non))) (dC .non) (dBin dIx (dVar 4) (dVar 1))) [4])))
theorem badRow_up (m : Mint) (b : Bool) : badRow m b = ((upFrom 1 (1000 + 2 * sizeOf' m)).map (badOf m)).map fun o => o.map fun p => if b = true then p.2 else p.1 := by
  unfold badRow
  rw [← upFrom_range, List.map_map, List.map_map]
  refine List.map_congr_left fun i _ => ?_
  show (badOf m ((i + 1 : Nat) : Int)).map _ = (badOf m (1 + (i : Int))).map _
  rw [show ((i + 1 : Nat) : Int) = 1 + (i : Int) by omega]
theorem rd_bad_row : ∀ ds Q, ds.length = 2 → F_bad_row ds Q → T_bad_row { nx := fun _ => Q .non, rt := Q } (startD 5 ds) := by
  rintro ds Q _ ⟨m, b, rfl, hm, hq⟩
  have hz := sizeOf_bd hm
  have := p30
  unfold T_bad_row dLc dRange2
  walk_at "rd"
  simp only [wipeD]
  walk_at "rd"
  refine ⟨trivial, m, rfl, hm, ?_⟩
  refine ⟨.inl (.inl ⟨by decide, by decide⟩), ⟨by decide, by decide, by omega, by omega⟩, ?_⟩
  rw [range_up, show (1000 + 2 * ((sizeOf' m : Nat) : Int) + 1 - 1).toNat = 1000 + 2 * sizeOf' m by omega]
  refine lcW_map D.int (fun n => match n with | n => optD pairD (badOf m n)) _ (fun n hn Kt hk => ?_) (small_size (by rw [upFrom_len]; omega)) ?_
  · walk_at "rd"
    have := upFrom_mem hn
    exact ⟨trivial, m, n, rfl, ⟨hm, by omega, by omega⟩, hk⟩
  · have er : List.map (fun n => match n with | n => optD pairD (badOf m n)) (upFrom 1 (1000 + 2 * sizeOf' m)) = ((upFrom 1 (1000 + 2 * sizeOf' m)).map (badOf m)).map (optD pairD) := by rw [List.map_map]; rfl
    rw [er]
    refine lcW_map (optD pairD) (fun o => optD .int (o.map fun p => if b = true then p.2 else p.1)) _ (fun o ho Kt hk => ?_) (small_size (by rw [List.length_map, upFrom_len]; omega)) ?_
    · walk_at "rd"
      cases o with
      | none => exact hk
      | some p =>
        unfold optD pairD
        cases b with
        | false => simp only [Bool.false_eq_true, if_false, at0]; exact hk
        | true => simp only [if_true, Bool.false_eq_true, if_false, at1]; exact hk
    · rw [badRow_up, List.map_map] at hq
      exact hq
def F_bad_form : FD := fun ds Q => ∃ m, ds = [mintD m] ∧ okMint m = true ∧ okRow (badRow m false) (sizeOf' m) ∧ Q (formsD (steadyN (badRow m false) (sizeOf' m)))
def T_bad_form : DTS := (dSeq (dDrop (dCall 1 F_look_at_mint (dCons (dVar 0) dNil)))
    (dRet (dCall 2 F_steady_numbers (dCons (dCall 2 F_bad_row (dCons (dVar 0) (dCons (dC (.int 0)) dNil))) (dCons (dCall 1 F_size_of (dCons (dVar 0) dNil)) dNil)))))
theorem badRow_len (m : Mint) (b : Bool) : (badRow m b).length = 1000 + 2 * sizeOf' m := by unfold badRow; simp
theorem rd_bad_form : ∀ ds Q, ds.length = 1 → F_bad_form ds Q → T_bad_form { nx := fun _ => Q .non, rt := Q } (startD 1 ds) := by
  rintro ds Q _ ⟨m, rfl, hm, hok, hq⟩
  have hz := sizeOf_bd hm
  unfold T_bad_form
  walk_at "rd"
  refine ⟨trivial, m, rfl, hm, ?_⟩
  refine ⟨trivial, m, false, rfl, hm, ?_⟩
  refine ⟨trivial, m, rfl, hm, ?_⟩
  exact ⟨trivial, _, _, rfl, ⟨by omega, by omega⟩, by rw [badRow_len]; omega, by rw [badRow_len]; omega, hok, hq⟩
def F_worse_form : FD := fun ds Q => ∃ m, ds = [mintD m] ∧ okMint m = true ∧ okRow (badRow m true) (sizeOf' m) ∧ Q (formsD (steadyN (badRow m true) (sizeOf' m)))
def T_worse_form : DTS := (dSeq (dDrop (dCall 1 F_look_at_mint (dCons (dVar 0) dNil)))
    (dRet (dCall 2 F_steady_numbers (dCons (dCall 2 F_bad_row (dCons (dVar 0) (dCons (dC (.int 1)) dNil))) (dCons (dCall 1 F_size_of (dCons (dVar 0) dNil)) dNil)))))
theorem rd_worse_form : ∀ ds Q, ds.length = 1 → F_worse_form ds Q → T_worse_form { nx := fun _ => Q .non, rt := Q } (startD 1 ds) := by
  rintro ds Q _ ⟨m, rfl, hm, hok, hq⟩
  have hz := sizeOf_bd hm
  unfold T_worse_form
  walk_at "rd"
  refine ⟨trivial, m, rfl, hm, ?_⟩
  refine ⟨trivial, m, true, rfl, hm, ?_⟩
  refine ⟨trivial, m, rfl, hm, ?_⟩
  exact ⟨trivial, _, _, rfl, ⟨by omega, by omega⟩, by rw [badRow_len]; omega, by rw [badRow_len]; omega, hok, hq⟩
def F_count_by : FD := fun ds Q => ∃ m s n, ds = [mintD m, pairD s, .int n] ∧ okN m n ∧ (0 ≤ s.1 ∧ s.1 ≤ 12) ∧ Q (optD .int (countBy m s n))
def T_count_by : DTS := (dSeq (dSet 3 (dBin dAdd (dBin dMul (dBin dIx (dVar 1) (dC (.int 0))) (dVar 2)) (dBin dIx (dVar 1) (dC (.int 1)))))
    (dSeq (dIfS (dtOr (dTest (dBin dLt (dVar 3) (dC (.int 0)))) (dtNot (dTest (dCall 2 F_struck_by (dCons (dVar 0) (dCons (dVar 2) dNil)))))) (dRet (dC .non)) dNext)
    (dRet (dCB dSum (dCons (dCall 2 F_given_by (dCons (dCall 2 F_worths_by (dCons (dVar 0) (dCons (dVar 2) dNil))) (dCons (dVar 3) dNil))) dNil)))))
theorem rd_count_by : ∀ ds Q, ds.length = 3 → F_count_by ds Q → T_count_by { nx := fun _ => Q .non, rt := Q } (startD 4 ds) := by
  rintro ds Q _ ⟨m, s, n, rfl, ⟨hm, hn⟩, hs, hq⟩
  unfold T_count_by pairD
  walk_at "rd"
  simp only [at0, at1]
  refine ⟨.inl (.inl ⟨by omega, by omega⟩), ?_⟩
  unfold countBy at hq
  by_cases hneg : s.1 * n + s.2 < 0
  · rw [if_pos (.inl hneg)] at hq
    simp only [hneg, decide_true, if_true]
    exact hq
  · simp only [hneg, decide_false, Bool.false_eq_true, if_false]
    refine ⟨trivial, m, n, rfl, okMint_small hm, ?_⟩
    cases hst : struckB m n with
    | false =>
      rw [if_pos (.inr hst)] at hq
      exact hq
    | true =>
      rw [if_neg (fun z => z.elim hneg (fun w => by rw [hst] at w; cases w))] at hq
      simp only [Bool.not_true, Bool.false_eq_true, if_false]
      refine ⟨trivial, m, n, rfl, okMint_small hm, ?_⟩
      refine ⟨trivial, _, _, rfl, by have := wl_small (n := n) hm; omega, wl_pos hm hn hst, ?_⟩
      unfold dSum intsT
      exact ⟨_, rfl, hq⟩
def okSum (s : Int × Int) : Prop := (0 ≤ s.1 ∧ s.1 ≤ 12) ∧ -50 ≤ s.2 ∧ s.2 ≤ 50
def F_look_at_sum : FD := fun ds Q => ∃ s, ds = [pairD s] ∧ okSum s ∧ Q .non
def T_look_at_sum : DTS := (dIfS (dtOr (dtNot (dTest (dCall 3 F_is_wide (dCons (dVar 0) (dCons (dC (.int 2)) (dCons (dC (.int 2)) dNil)))))) (dtOr (dtNot (dTest (dCall 3 F_is_within (dCons (dBin dIx (dVar 0) (dC (.int 0))) (dCons (dC (.int 0)) (dCons (dC (.int 12)) dNil)))))) (dtNot (dTest (dCall 3 F_is_within (dCons (dBin dIx (dVar 0) (dC (.int 1))) (dCons (dUn dNeg (dC (.int 50))) (dCons (dC (.int 50)) dNil)))))))) (fun _ _ => False) dNext)
theorem within_ok {i lo hi : Int} (h : lo ≤ i ∧ i ≤ hi) : within (.int i) lo hi = true := by
  unfold within
  simp only [Bool.and_eq_true, decide_eq_true_eq]
  exact h
theorem rd_look_at_sum : ∀ ds Q, ds.length = 1 → F_look_at_sum ds Q → T_look_at_sum { nx := fun _ => Q .non, rt := Q } (startD 1 ds) := by
  rintro ds Q _ ⟨s, rfl, hs, hq⟩
  unfold T_look_at_sum pairD
  walk_at "rd"
  refine ⟨trivial, _, 2, 2, rfl, (fun z => nomatch z), ?_⟩
  have e : wide (.tup [.int s.1, .int s.2]) 2 2 = true := by rfl
  rw [e]
  simp only [Bool.not_true, Bool.false_eq_true, if_false, at0, at1]
  refine ⟨trivial, _, _, _, rfl, flat_plain (flat_int _), ?_⟩
  rw [within_ok hs.1]
  simp only [Bool.not_true, Bool.false_eq_true, if_false, at0, at1]
  refine ⟨trivial, _, _, _, rfl, flat_plain (flat_int _), ?_⟩
  rw [within_ok ⟨hs.2.1, hs.2.2⟩]
  simpa using hq
def F_count_form : FD := fun ds Q => ∃ m s, ds = [mintD m, pairD s] ∧ okMint m = true ∧ okSum s ∧ okRow (countRow m s) (sizeOf' m) ∧ Q (formsD (steadyN (countRow m s) (sizeOf' m)))
def T_count_form : DTS := (dSeq (dDrop (dCall 1 F_look_at_mint (dCons (dVar 0) dNil)))
    (dSeq (dDrop (dCall 1 F_look_at_sum (dCons (dVar 1) dNil)))
    (dSeq (dSet 2 (dLc (dRange2 (dCons (dC (.int 1)) (dCons (dBin dAdd (dBin dAdd (dC (.int 1000)) (dBin dMul (dC (.int 2)) (dCall 1 F_size_of (dCons (dVar 0) dNil)))) (dC (.int 1))) dNil))) (dName 3) dYes (dCall 3 F_count_by (dCons (dVar 0) (dCons (dVar 1) (dCons (dVar 3) dNil)))) [3]))
    (dRet (dCall 2 F_steady_numbers (dCons (dVar 2) (dCons (dCall 1 F_size_of (dCons (dVar 0) dNil)) dNil)))))))
theorem countRow_up (m : Mint) (s : Int × Int) : countRow m s = (upFrom 1 (1000 + 2 * sizeOf' m)).map (countBy m s) := by
  unfold countRow
  rw [← upFrom_range, List.map_map]
  refine List.map_congr_left fun i _ => ?_
  show countBy m s ((i + 1 : Nat) : Int) = countBy m s (1 + (i : Int))
  rw [show ((i + 1 : Nat) : Int) = 1 + (i : Int) by omega]
theorem countRow_len (m : Mint) (s : Int × Int) : (countRow m s).length = 1000 + 2 * sizeOf' m := by unfold countRow; simp
theorem rd_count_form : ∀ ds Q, ds.length = 2 → F_count_form ds Q → T_count_form { nx := fun _ => Q .non, rt := Q } (startD 4 ds) := by
  rintro ds Q _ ⟨m, s, rfl, hm, hs, hok, hq⟩
  have hz := sizeOf_bd hm
  have := p30
  unfold T_count_form dLc dRange2
  walk_at "rd"
  refine ⟨trivial, m, rfl, hm, ?_⟩
  refine ⟨trivial, s, rfl, hs, ?_⟩
  simp only [wipeD]
  walk_at "rd"
  refine ⟨trivial, m, rfl, hm, ?_⟩
  refine ⟨.inl (.inl ⟨by decide, by decide⟩), ⟨by decide, by decide, by omega, by omega⟩, ?_⟩
  rw [range_up, show (1000 + 2 * ((sizeOf' m : Nat) : Int) + 1 - 1).toNat = 1000 + 2 * sizeOf' m by omega]
  refine lcW_map D.int (fun n => match n with | n => optD .int (countBy m s n)) _ (fun n hn Kt hk => ?_) (small_size (by rw [upFrom_len]; omega)) ?_
  · walk_at "rd"
    have := upFrom_mem hn
    exact ⟨trivial, m, s, n, rfl, ⟨hm, by omega, by omega⟩, hs.1, hk⟩
  · walk_at "rd"
    refine ⟨trivial, m, rfl, hm, ?_⟩
    refine ⟨trivial, countRow m s, sizeOf' m, ?_, ⟨by omega, by omega⟩, by rw [countRow_len]; omega, by rw [countRow_len]; omega, hok, hq⟩
    rw [countRow_up, List.map_map]
    rfl

end Gf
namespace Gf
open PySem PySem.Spec PyProof.Rows L2
local macro_rules | `(tactic| walk_at "rd") => `(tactic| simp only [dSeq, dSet, dVar, dC, dRet, dIfS, dtOr, dtAnd, dtNot, dTest, dNot, dAnd, dOr, dIf, dBin, dUn, dCall, dCons, dNil, dCB, dTup, dLst, dDrop, dNext, dPart, dNoPart, dSl, dItems, dName, dgTup, dgCons, dgNil, dYes, dAsg, dPar, dIx, dAdd, dSub, dMul, dFdiv, dMod, dPow, dLt, dLe, dGt, dGe, dNeg, dEq, dNe, dIsN, dNotN, dChain, dIsi, dLen, dTupleOf, dListOf, dAll, dAbs, dInt, startD, dAt_zero, dAt_succ, isN,
  List.map_cons, List.map_nil, List.cons_append, List.nil_append, List.length_cons, List.length_nil, List.set_cons_zero, List.set_cons_succ, List.replicate_succ, List.replicate_zero, Nat.zero_add, Nat.reduceAdd, Nat.reduceSub, List.append_nil])
local macro_rules | `(tactic| walk_at "ev") => `(tactic| (repeat' (first | exact ev_c | exact ea_nil | exact ev_var rfl | refine ea_cons ?_ ?_ | refine ev_tup ?_ (by decide) | refine ev_lst ?_ (by decide) | refine ev_neg ?_ | refine ev_add ?_ ?_ | refine ev_sub ?_ ?_ | refine ev_mul ?_ ?_ (.inl (.inl ⟨by decide, by decide⟩)) | refine ev_addL ?_ ?_ (by decide) | refine ev_addT ?_ ?_ (by decide))))

theorem leP_antisymm {a b : Int × Int} (h1 : leP a b = true) (h2 : leP b a = true) : a = b := by
  obtain ⟨a1, a2⟩ := a
  obtain ⟨b1, b2⟩ := b
  unfold leP at h1 h2
  simp only [decide_eq_true_eq] at h1 h2
  rw [Prod.mk.injEq]
  omega
theorem sorted_unique : ∀ l m : Mint, l.Perm m → l.Pairwise (fun x y => leP x y = true) → m.Pairwise (fun x y => leP x y = true) → l = m
  | [], m, p, _, _ => (List.nil_perm.mp p).symm
  | a :: l, [], p, _, _ => absurd p.length_eq (by simp)
  | a :: l, b :: m, p, hl, hm => by
    have h1 := List.pairwise_cons.mp hl
    have h2 := List.pairwise_cons.mp hm
    have refl : ∀ x : Int × Int, leP x x = true := fun x => by unfold leP; simp
    have e : a = b := by
      have ha : a ∈ b :: m := p.mem_iff.mp List.mem_cons_self
      have hb : b ∈ a :: l := p.mem_iff.mpr List.mem_cons_self
      rcases List.mem_cons.mp ha with e | ha
      · exact e
      · rcases List.mem_cons.mp hb with e | hb
        · exact e.symm
        · exact leP_antisymm (h1.1 b hb) (h2.1 a ha)
    subst e
    rw [sorted_unique l m ((List.perm_cons a).mp p) h1.2 h2.2]
theorem insP_perm (p : Int × Int) : ∀ m : Mint, (insP p m).Perm (m ++ [p])
  | [] => .refl _
  | q :: r => by
    unfold insP
    split
    · exact (List.perm_append_comm (l₁ := [p]) (l₂ := q :: r))
    · exact (insP_perm p r).cons q
theorem insP_sorted (p : Int × Int) : ∀ m : Mint, m.Pairwise (fun x y => leP x y = true) → (insP p m).Pairwise (fun x y => leP x y = true)
  | [], _ => by unfold insP; exact List.pairwise_singleton _ _
  | q :: r, h => by
    have h1 := List.pairwise_cons.mp h
    unfold insP
    split
    · rename_i hpq
      refine List.pairwise_cons.mpr ⟨fun z hz => ?_, h⟩
      rcases List.mem_cons.mp hz with e | hz
      · rw [e]; exact hpq
      · exact leP_trans _ _ _ hpq (h1.1 z hz)
    · rename_i hpq
      refine List.pairwise_cons.mpr ⟨fun z hz => ?_, insP_sorted p r h1.2⟩
      have hz' := (insP_perm p r).mem_iff.mp hz
      rcases List.mem_append.mp hz' with hz' | hz'
      · exact h1.1 z hz'
      · rw [List.mem_singleton.mp hz']
        have := leP_total p q
        rw [Bool.or_eq_true] at this
        exact this.resolve_left hpq
theorem okMint_sorted {m : Mint} (h : okMint m = true) : m.Pairwise (fun x y => leP x y = true) := by
  unfold okMint at h
  simp only [Bool.and_eq_true] at h
  exact ((risingP_iff m).mp h.2).imp fun h => h.1
theorem any_toPys (x : D) : ∀ xs : List D, ((toPys xs).any fun z => PyData.eqv z (toPy x)) = xs.any fun z => eqD z x
  | [] => rfl
  | y :: ys => by rw [toPys, List.any_cons, List.any_cons, any_toPys x ys]; rfl
theorem inD_mint (c : Int × Int) (m : Mint) : inD (pairD c) (m.map pairD) = m.any fun z => z == c := by
  unfold inD
  rw [any_toPys, List.any_map]
  congr 1
  funext z
  exact eqD_pair z c
def F_is_good : FD := fun ds Q => ∃ m, ds = [mintD m] ∧ Q (.bl (goodB m))
def T_is_good : DTS := (dRet (dAnd (dCall 1 F_is_fit (dCons (dVar 0) dNil)) (dCall 1 F_always_by (dCons (dVar 0) dNil))))
theorem rd_is_good : ∀ ds Q, ds.length = 1 → F_is_good ds Q → T_is_good { nx := fun _ => Q .non, rt := Q } (startD 1 ds) := by
  rintro ds Q _ ⟨m, rfl, hq⟩
  unfold T_is_good
  walk_at "rd"
  refine ⟨trivial, _, rfl, flat_mint m, ?_⟩
  rw [fitB_tup]
  unfold goodB at hq
  cases h : okMint m with
  | false => rw [h] at hq; exact hq
  | true =>
    rw [h, Bool.true_and] at hq
    exact ⟨trivial, m, rfl, h, hq⟩
def F_less_by : FD := fun ds Q => ∃ m c, ds = [mintD m, .int (c : Nat)] ∧ m.length ≤ 100 ∧ Q (mintD (lessB m c))
def T_less_by : DTS := (dRet (dBin dAdd (dSl (dVar 0) dNoPart (dPart (dVar 1))) (dSl (dVar 0) (dPart (dBin dAdd (dVar 1) (dC (.int 1)))) dNoPart)))
theorem rd_less_by : ∀ ds Q, ds.length = 2 → F_less_by ds Q → T_less_by { nx := fun _ => Q .non, rt := Q } (startD 2 ds) := by
  rintro ds Q _ ⟨m, c, rfl, hl, hq⟩
  unfold T_less_by mintD
  walk_at "rd"
  rw [cut0 _ _ (by omega), cutF _ _ (by omega), show ((c : Int) + 1).toNat = c + 1 by omega, Int.toNat_natCast]
  refine ⟨?_, ?_⟩
  · have := small_size (n := 200) (by decide)
    rw [List.length_take, List.length_drop, List.length_map]
    omega
  · unfold mintD lessB at hq
    rw [List.map_append, List.map_take, List.map_drop] at hq
    exact hq
def F_leavable : FD := fun ds Q => ∃ m, ds = [mintD m] ∧ okMint m = true ∧ Q (.lst ((leavableB m).map fun c => .int (c : Nat)))
def T_leavable : DTS := (dSeq (dDrop (dCall 1 F_look_at_mint (dCons (dVar 0) dNil)))
    (dSeq (dSet 1 (dIf (dTest (dCall 1 F_always_by (dCons (dVar 0) dNil))) (dCB dLen (dCons (dVar 0) dNil)) (dC (.int 0))))
    (dRet (dLc (dRange1 (dCons (dVar 1) dNil)) (dName 2) (dTest (dCall 1 F_is_good (dCons (dCall 2 F_less_by (dCons (dVar 0) (dCons (dVar 2) dNil))) dNil))) (dVar 2) [2]))))
theorem rd_leavable : ∀ ds Q, ds.length = 1 → F_leavable ds Q → T_leavable { nx := fun _ => Q .non, rt := Q } (startD 3 ds) := by
  rintro ds Q _ ⟨m, rfl, hm, hq⟩
  have hl := (okMint_small hm).1
  unfold T_leavable dLc dRange1
  walk_at "rd"
  refine ⟨trivial, m, rfl, hm, ?_⟩
  refine ⟨trivial, m, rfl, hm, ?_⟩
  simp only [wipeD]
  unfold leavableB at hq
  have main : ∀ k : Nat, k ≤ m.length → Q (.lst (((List.range k).filter fun c => goodB (lessB m c)).map fun c => .int (c : Nat))) → lcW (dName 2) (dTest (dCall 1 F_is_good (dCons (dCall 2 F_less_by (dCons (dVar 0) (dCons (dVar 2) dNil))) dNil))) (dVar 2) [some (mintD m), some (.int (k : Nat)), none] Q (List.map (fun i => D.int (0 + (i : Nat))) (List.range k)) [] := fun k hk hq => by
    have e : List.map (fun i => D.int (0 + ((i : Nat) : Int))) (List.range k) = (List.range k).map fun i => D.int ((i : Nat) : Int) := List.map_congr_left fun i _ => by rw [Int.zero_add]
    rw [e]
    refine lcW_ok (fun i : Nat => D.int (i : Nat)) (fun i => if goodB (lessB m i) = true then some (.int (i : Nat)) else none) _ [] (fun c hc Kt Kf q => ?_) (by have := small_size (n := k) (by omega); simpa using this) ?_
    · walk_at "rd"
      refine ⟨trivial, ?_⟩
      refine ⟨m, c, rfl, hl, ?_⟩
      refine ⟨by trivial, _, rfl, ?_⟩
      cases hg : goodB (lessB m c) with
      | true => rw [hg] at q; exact q
      | false => rw [hg] at q; exact q
    · rw [List.nil_append, filterMap_ite]
      have ef : (fun x => decide (goodB (lessB m x) = true)) = fun c => goodB (lessB m c) := by funext x; simp
      rw [ef]
      exact hq
  cases ha : alwaysB m with
  | true =>
    rw [ha] at hq
    unfold mintD
    simp only [if_true] at hq ⊢
    rw [List.length_map]
    refine ⟨⟨by omega, by omega⟩, ?_⟩
    rw [Int.toNat_natCast]
    exact main m.length (Nat.le_refl _) hq
  | false =>
    rw [ha] at hq
    simp only [Bool.false_eq_true, if_false] at hq ⊢
    exact ⟨⟨by decide, by decide⟩, main 0 (Nat.zero_le _) hq⟩
def F_more_by : FD := fun ds Q => ∃ m c, ds = [mintD m, pairD c] ∧ m.length ≤ 100 ∧ m.Pairwise (fun x y => leP x y = true) ∧ Q (mintD (insP c m))
def T_more_by : DTS := (dRet (dCB dTupleOf (dCons (dCB dSorted (dCons (dBin dAdd (dVar 0) (dTup (dCons (dVar 1) dNil))) dNil)) dNil)))
theorem rd_more_by : ∀ ds Q, ds.length = 2 → F_more_by ds Q → T_more_by { nx := fun _ => Q .non, rt := Q } (startD 2 ds) := by
  rintro ds Q _ ⟨m, c, rfl, hl, hs, hq⟩
  unfold T_more_by mintD
  walk_at "rd"
  refine ⟨by decide, ?_, ?_⟩
  · have := small_size (n := 200) (by decide)
    rw [List.length_map]
    omega
  · unfold dSorted seqOf
    refine ⟨m ++ [c], by rw [List.map_append]; rfl, by rw [List.length_append, List.length_singleton]; omega, fun qs hp hw => ?_⟩
    have : qs = insP c m := sorted_unique _ _ (hp.trans (insP_perm c m).symm) hw (insP_sorted c m hs)
    rw [this]
    exact hq
def F_addable : FD := fun ds Q => ∃ m menu, ds = [mintD m, mintD menu] ∧ okMint m = true ∧ (1 ≤ menu.length ∧ menu.length ≤ 8) ∧ menu.all okCoin = true ∧ Q (.lst ((addableB m menu).map fun c => .int (c : Nat)))
def T_addable : DTS := (dSeq (dDrop (dCall 1 F_look_at_mint (dCons (dVar 0) dNil)))
    (dSeq (dIfS (dtOr (dtNot (dTest (dCall 3 F_is_wide (dCons (dVar 1) (dCons (dC (.int 1)) (dCons (dC (.int 8)) dNil)))))) (dtNot (dTest (dCB dAll (dCons (dLc (dItems (dVar 1)) (dName 2) dYes (dCall 1 F_is_coin (dCons (dVar 2) dNil)) [2]) dNil))))) (fun _ _ => False) dNext)
    (dRet (dLc (dEnum (dCons (dVar 1) dNil)) (dgTup 2 (dgCons (dName 3) (dgCons (dName 2) dgNil))) (dtAnd (dTest (dBin dNotIn (dVar 2) (dVar 0))) (dTest (dCall 1 F_is_good (dCons (dCall 2 F_more_by (dCons (dVar 0) (dCons (dVar 2) dNil))) dNil)))) (dVar 3) [3, 2]))))
theorem enumD_map : ∀ (menu : Mint) (i : Nat), enumD i (menu.map pairD) = (enumM i menu).map fun q => .tup [.int (q.1 : Nat), pairD q.2]
  | [], _ => rfl
  | p :: m, i => by rw [List.map_cons, enumD, enumM, List.map_cons, enumD_map m]
theorem enumM_len : ∀ (menu : Mint) (i : Nat), (enumM i menu).length = menu.length
  | [], _ => rfl
  | p :: m, i => by rw [enumM, List.length_cons, enumM_len m, List.length_cons]
theorem rd_addable : ∀ ds Q, ds.length = 2 → F_addable ds Q → T_addable { nx := fun _ => Q .non, rt := Q } (startD 4 ds) := by
  rintro ds Q _ ⟨m, menu, rfl, hm, hl, ha, hq⟩
  have hml := (okMint_small hm).1
  unfold T_addable dLc dEnum
  walk_at "rd"
  refine ⟨trivial, m, rfl, hm, ?_⟩
  refine ⟨trivial, _, 1, 8, rfl, flat_plain (flat_mint menu), ?_⟩
  have ew : wide (mintD menu) 1 8 = true := by
    unfold mintD wide
    simp only [Bool.and_eq_true, decide_eq_true_eq, List.length_map]
    omega
  rw [ew]
  unfold mintD
  simp only [wipeD, Bool.not_true, Bool.false_eq_true, if_false]
  walk_at "rd"
  refine lcW_map pairD (fun p => .bl (okCoin p)) menu (fun p hp Kt hk => ?_) (small_size (by omega)) ?_
  · walk_at "rd"
    refine ⟨trivial, _, rfl, flat_pair p, ?_⟩
    rw [coinB_pair]
    exact hk
  · refine ⟨menu.map okCoin, by rw [List.map_map]; rfl, ?_⟩
    have e : (menu.map okCoin).all id = true := by rw [List.all_map]; exact ha
    rw [e]
    unfold seqOf
    simp only [Bool.not_true, Bool.false_eq_true, if_false]
    rw [enumD_map]
    refine lcW_ok (fun q : Nat × (Int × Int) => .tup [.int (q.1 : Nat), pairD q.2]) (fun q => if (!(m.any fun z => z == q.2) && goodB (insP q.2 m)) = true then some (.int (q.1 : Nat)) else none) _ [] (fun q hq' Kt Kf k => ?_) (by have := small_size (n := (enumM 0 menu).length) (by rw [enumM_len]; omega); simpa using this) ?_
    · walk_at "rd"
      refine ⟨trivial, ⟨flat_pair _, Nat.le_trans (deep_pair _) (by decide)⟩, flats_map flat_pair m, ?_⟩
      rw [inD_mint]
      cases hi : (m.any fun z => z == q.2) with
      | true =>
        rw [hi] at k
        exact k
      | false =>
        rw [hi] at k
        simp only [Bool.not_false, if_true, Bool.true_and] at k ⊢
        refine ⟨trivial, ?_⟩
        refine ⟨m, q.2, rfl, hml, okMint_sorted hm, ?_⟩
        refine ⟨by trivial, _, rfl, ?_⟩
        cases hg : goodB (insP q.2 m) with
        | true => rw [hg] at k; exact k
        | false => rw [hg] at k; exact k
    · rw [List.nil_append, filterMap_ite]
      unfold addableB at hq
      rw [List.map_map] at hq
      have ef : (fun x : Nat × (Int × Int) => decide ((!(m.any fun z => z == x.2) && goodB (insP x.2 m)) = true)) = fun q => !(m.any fun z => z == q.2) && goodB (insP q.2 m) := by funext x; simp
      rw [ef]
      exact hq
def F_parting_of : FD := fun ds Q => ∃ m k, ds = [mintD m, mintD k] ∧ okMint m = true ∧ okMint k = true ∧ Q (optD .int (partingB m k))
def T_parting_of : DTS := (dSeq (dPar 2 3 (dCall 1 F_size_of (dCons (dVar 0) dNil)) (dCall 1 F_size_of (dCons (dVar 1) dNil)))
    (dSeq (dFor (dRange2 (dCons (dC (.int 1)) (dCons (dBin dAdd (dBin dAdd (dC (.int 1000)) (dBin dFdiv (dBin dMul (dVar 2) (dVar 3)) (dCall 2 F_divisor (dCons (dVar 2) (dCons (dVar 3) dNil))))) (dC (.int 1))) dNil))) (dName 4) (dIfS (dTest (dBin dNe (dCall 2 F_right_by (dCons (dVar 0) (dCons (dVar 4) dNil))) (dCall 2 F_right_by (dCons (dVar 1) (dCons (dVar 4) dNil))))) (dRet (dVar 4)) dNext))
    (dRet (dC .non))))
theorem rd_parting_of : ∀ ds Q, ds.length = 2 → F_parting_of ds Q → T_parting_of { nx := fun _ => Q .non, rt := Q } (startD 5 ds) := by
  rintro ds Q _ ⟨m, k, rfl, hm, hk, hq⟩
  have hz := sizeOf_bd hm
  have hz2 := sizeOf_bd hk
  have := p30
  have b60 : (1000 : Int) ≤ 10 ^ 60 := by decide +kernel
  unfold T_parting_of dFor dRange2
  walk_at "rd"
  refine ⟨trivial, m, rfl, hm, ?_⟩
  refine ⟨trivial, k, rfl, hk, ?_⟩
  refine ⟨.inl (.inl ⟨by omega, by omega⟩), ?_⟩
  refine ⟨trivial, _, _, rfl, ?_⟩
  have hd := divisor_bd (x := ((sizeOf' m : Nat) : Int)) (b := ((sizeOf' k : Nat) : Int)) (by omega)
  have ed : ((sizeOf' m : Nat) : Int) * ((sizeOf' k : Nat) : Int) / divisorB ((sizeOf' m : Nat) : Int) ((sizeOf' k : Nat) : Int) = ((sizeOf' m * sizeOf' k / Nat.gcd (sizeOf' m) (sizeOf' k) : Nat) : Int) := by
    unfold divisorB
    simp
  walk_at "rd"
  rw [ed]
  have hL : sizeOf' m * sizeOf' k / Nat.gcd (sizeOf' m) (sizeOf' k) ≤ 81 := Nat.le_trans (Nat.div_le_self _ _) (Nat.mul_le_mul hz.2.1 hz2.2.1)
  unfold partingB at hq
  generalize hG : sizeOf' m * sizeOf' k / Nat.gcd (sizeOf' m) (sizeOf' k) = L at *
  refine ⟨divOk ⟨by omega, by omega⟩, ⟨by decide, by decide, by omega, by omega⟩, ?_⟩
  rw [range_up, show (1000 + ((L : Nat) : Int) + 1 - 1).toNat = 1000 + L by omega]
  refine forW_up D.int (fun us δ => ∃ (j : Nat) (o : Option D), δ = [some (mintD m), some (mintD k), some (.int (sizeOf' m : Nat)), some (.int (sizeOf' k : Nat)), o] ∧ us = upFrom (j + 1) (1000 + L - j) ∧ j ≤ 1000 + L ∧ ∀ i, i < j → (rightB m ((i + 1 : Nat) : Int) != rightB k ((i + 1 : Nat) : Int)) = false) (fun x us δ hI N hN => ?_) (fun δ hI => ?_) _ _ ⟨0, none, rfl, by simp, Nat.zero_le _, fun i h => absurd h (Nat.not_lt_zero i)⟩
  · obtain ⟨j, o, rfl, h2, h3, h4⟩ := hI
    obtain ⟨i, hi, rfl, hxs⟩ := upFrom_succ h2
    have ej : ((j : Int) + 1) = ((j + 1 : Nat) : Int) := by omega
    rw [ej]
    walk_at "rd"
    refine ⟨trivial, m, _, rfl, ⟨hm, by omega, by omega⟩, ?_⟩
    refine ⟨trivial, k, _, rfl, ⟨hk, by omega, by omega⟩, cmp_bl _, cmp_bl _, ?_⟩
    rw [eqD_bl]
    cases ht : (rightB m ((j + 1 : Nat) : Int) != rightB k ((j + 1 : Nat) : Int)) with
    | true =>
      have ht' : (!(rightB m ((j + 1 : Nat) : Int) == rightB k ((j + 1 : Nat) : Int))) = true := ht
      rw [ht']
      simp only [if_true]
      rw [find_some (by omega) ht h4] at hq
      exact hq
    | false =>
      have ht' : (!(rightB m ((j + 1 : Nat) : Int) == rightB k ((j + 1 : Nat) : Int))) = false := ht
      rw [ht']
      simp only [Bool.false_eq_true, if_false]
      exact hN _ ⟨j + 1, _, rfl, by rw [hxs, show 1000 + L - (j + 1) = i by omega]; rfl, by omega, fun q hq => by
        rcases Nat.lt_succ_iff_lt_or_eq.mp hq with hq | hq
        · exact h4 q hq
        · rw [hq]; exact ht⟩
  · obtain ⟨j, o, rfl, h2, h3, h4⟩ := hI
    have := upFrom_nil h2
    walk_at "rd"
    rw [find_none fun i hi => h4 i (by omega)] at hq
    exact hq
def F_alike : FD := fun ds Q => ∃ m k, ds = [mintD m, mintD k] ∧ okMint m = true ∧ okMint k = true ∧ Q (.bl (partingB m k).isNone)
def T_alike : DTS := (dSeq (dDrop (dCall 1 F_look_at_mint (dCons (dVar 0) dNil)))
    (dSeq (dDrop (dCall 1 F_look_at_mint (dCons (dVar 1) dNil)))
    (dRet (dBin dIsN (dCall 2 F_parting_of (dCons (dVar 0) (dCons (dVar 1) dNil))) (dC .non)))))
theorem rd_alike : ∀ ds Q, ds.length = 2 → F_alike ds Q → T_alike { nx := fun _ => Q .non, rt := Q } (startD 2 ds) := by
  rintro ds Q _ ⟨m, k, rfl, hm, hk, hq⟩
  unfold T_alike
  walk_at "rd"
  refine ⟨trivial, m, rfl, hm, ?_⟩
  refine ⟨trivial, k, rfl, hk, ?_⟩
  refine ⟨trivial, m, k, rfl, hm, hk, ?_⟩
  cases h : partingB m k with
  | none => rw [h] at hq; exact hq
  | some n => rw [h] at hq; exact hq
def F_parting : FD := F_parting_of
def T_parting : DTS := (dSeq (dDrop (dCall 1 F_look_at_mint (dCons (dVar 0) dNil)))
    (dSeq (dDrop (dCall 1 F_look_at_mint (dCons (dVar 1) dNil)))
    (dRet (dCall 2 F_parting_of (dCons (dVar 0) (dCons (dVar 1) dNil))))))
theorem rd_parting : ∀ ds Q, ds.length = 2 → F_parting ds Q → T_parting { nx := fun _ => Q .non, rt := Q } (startD 2 ds) := by
  rintro ds Q _ ⟨m, k, rfl, hm, hk, hq⟩
  unfold T_parting
  walk_at "rd"
  refine ⟨trivial, m, rfl, hm, ?_⟩
  refine ⟨trivial, k, rfl, hk, ?_⟩
  exact ⟨trivial, m, k, rfl, hm, hk, hq⟩
def okSight (m : Mint) (s : Sight) : Prop := (0 ≤ s.1 ∧ s.1 ≤ 300) ∧ s.2.length = m.length + 1 ∧ ∀ c ∈ s.2, 0 ≤ c ∧ c ≤ 300
def F_goes_with : FD := fun ds Q => ∃ m seen n, ds = [mintD m, .tup (seen.map sightD), .int n] ∧ okN m n ∧ seen.length ≤ 10 ∧ Q (.bl (goesB m seen n))
def T_goes_with : DTS := (dSeq (dIfS (dtNot (dTest (dCall 2 F_struck_by (dCons (dVar 0) (dCons (dVar 2) dNil))))) (dRet (dC (.bl false))) dNext)
    (dRet (dCB dAll (dCons (dLc (dItems (dVar 1)) (dgTup 2 (dgCons (dName 3) (dgCons (dName 4) dgNil))) dYes (dBin dEq (dCall 2 F_given_by (dCons (dCall 2 F_worths_by (dCons (dVar 0) (dCons (dVar 2) dNil))) (dCons (dVar 3) dNil))) (dVar 4)) [3, 4]) dNil))))
theorem eqD_int' (i j : Int) : eqD (.int i) (.int j) = (i == j) := eqD_int i j
theorem eqD_ints (xs ys : List Int) : eqD (intsT xs) (intsT ys) = (xs == ys) := by
  unfold intsT
  rw [eqD_tup, eqvAll_map eqD_int']
theorem cmp_ints (xs : List Int) : cmpb (intsT xs) := cmp_tup (flats_map flat_int xs) (Nat.le_trans (deeps_map (k := 0) (fun i => by rw [deep]; omega; all_goals exact fun _ z => nomatch z) xs) (by decide))
theorem rd_goes_with : ∀ ds Q, ds.length = 3 → F_goes_with ds Q → T_goes_with { nx := fun _ => Q .non, rt := Q } (startD 5 ds) := by
  rintro ds Q _ ⟨m, seen, n, rfl, ⟨hm, hn⟩, hl, hq⟩
  unfold T_goes_with dLc
  walk_at "rd"
  refine ⟨trivial, m, n, rfl, okMint_small hm, ?_⟩
  unfold goesB at hq
  cases hs : struckB m n with
  | false => rw [hs] at hq; exact hq
  | true =>
    rw [hs, Bool.true_and] at hq
    simp only [Bool.not_true, Bool.false_eq_true, if_false, wipeD]
    walk_at "rd"
    refine lcW_map sightD (fun s => .bl (given (wl m n) s.1 == s.2)) seen (fun s hs' Kt hk => ?_) (small_size (by omega)) ?_
    · unfold sightD
      walk_at "rd"
      refine ⟨trivial, ?_⟩
      refine ⟨trivial, m, n, rfl, okMint_small hm, ?_⟩
      refine ⟨trivial, _, _, rfl, by have := wl_small (n := n) hm; omega, wl_pos hm hn hs, cmp_ints _, cmp_ints _, ?_⟩
      rw [eqD_ints]
      exact hk
    · refine ⟨seen.map fun s => given (wl m n) s.1 == s.2, by rw [List.map_map]; rfl, ?_⟩
      rw [List.all_map]
      exact hq
def sightB (m : Mint) (d : D) : Bool := match d with
  | .tup [x, .tup cs] => within x 0 300 && (wide (.tup cs) ((m.length : Nat) + 1) ((m.length : Nat) + 1) && cs.all fun c => within c 0 300)
  | _ => false
def F_is_sight : FD := fun ds Q => ∃ m d, ds = [mintD m, d] ∧ m.length ≤ 100 ∧ flat d = true ∧ Q (.bl (sightB m d))
def T_is_sight : DTS := (dSeq (dIfS (dtOr (dtNot (dTest (dCall 3 F_is_wide (dCons (dVar 1) (dCons (dC (.int 2)) (dCons (dC (.int 2)) dNil)))))) (dtNot (dTest (dCall 3 F_is_within (dCons (dBin dIx (dVar 1) (dC (.int 0))) (dCons (dC (.int 0)) (dCons (dC (.int 300)) dNil))))))) (dRet (dC (.bl false))) dNext)
    (dSeq (dIfS (dtNot (dTest (dCall 3 F_is_wide (dCons (dBin dIx (dVar 1) (dC (.int 1))) (dCons (dBin dAdd (dCB dLen (dCons (dVar 0) dNil)) (dC (.int 1))) (dCons (dBin dAdd (dCB dLen (dCons (dVar 0) dNil)) (dC (.int 1))) dNil)))))) (dRet (dC (.bl false))) dNext)
    (dRet (dCB dAll (dCons (dLc (dItems (dBin dIx (dVar 1) (dC (.int 1)))) (dName 2) dYes (dCall 3 F_is_within (dCons (dVar 2) (dCons (dC (.int 0)) (dCons (dC (.int 300)) dNil)))) [2]) dNil)))))
theorem sightB_ok {m : Mint} {s : Sight} (h : okSight m s) : sightB m (sightD s) = true := by
  obtain ⟨h1, h2, h3⟩ := h
  unfold sightB sightD intsT
  simp only [within_ok h1, Bool.true_and]
  rw [Bool.and_eq_true]
  refine ⟨?_, ?_⟩
  · unfold wide
    simp only [Bool.and_eq_true, decide_eq_true_eq, List.length_map]
    omega
  · rw [List.all_map]
    exact List.all_eq_true.mpr fun c hc => within_ok (h3 c hc)
theorem rd_is_sight : ∀ ds Q, ds.length = 2 → F_is_sight ds Q → T_is_sight { nx := fun _ => Q .non, rt := Q } (startD 3 ds) := by
  rintro ds Q _ ⟨m, d, rfl, hl, hf, hq⟩
  unfold T_is_sight dLc
  walk_at "rd"
  refine ⟨trivial, _, 2, 2, rfl, flat_plain hf, ?_⟩
  cases hw : wide d 2 2 with
  | false =>
    have e : sightB m d = false := by
      unfold sightB
      split
      · cases hw
      · rfl
    rw [e] at hq
    simpa using hq
  | true =>
    obtain ⟨x, y, rfl⟩ : ∃ x y, d = .tup [x, y] := by
      cases d with
      | tup xs =>
        have h : (decide ((2 : Int) ≤ (xs.length : Nat)) && decide (((xs.length : Nat) : Int) ≤ 2)) = true := hw
        simp only [Bool.and_eq_true, decide_eq_true_eq] at h
        match xs, h with
        | [x, y], _ => exact ⟨x, y, rfl⟩
        | [], h => simp at h
        | [_], h => simp at h
        | _ :: _ :: _ :: _, h => simp only [List.length_cons] at h; omega
      | _ => cases hw
    have f1 : flat x = true ∧ flat y = true := by
      rw [flat, flats, flats, flats, Bool.and_true, Bool.and_eq_true] at hf
      exact hf
    simp only [Bool.not_true, Bool.false_eq_true, if_false, at0, at1]
    refine ⟨trivial, x, _, _, rfl, flat_plain f1.1, ?_⟩
    cases h1 : within x 0 300 with
    | false =>
      have e : sightB m (.tup [x, y]) = false := by
        unfold sightB
        split
        · rename_i e; cases e; rw [h1]; rfl
        · rfl
      rw [e] at hq
      simpa using hq
    | true =>
      simp only [Bool.not_true, Bool.false_eq_true, if_false, at0, at1]
      have em : (match mintD m with | .tup xs => ((xs.length : Nat) : Int) | _ => 0) = ((m.length : Nat) : Int) := by unfold mintD; simp
      unfold mintD at em ⊢
      simp only [List.length_map]
      refine ⟨trivial, y, _, _, rfl, flat_plain f1.2, ?_⟩
      cases h2 : wide y ((m.length : Nat) + 1) ((m.length : Nat) + 1) with
      | false =>
        have e : sightB m (.tup [x, y]) = false := by
          unfold sightB
          split
          · rename_i e; cases e; rw [h2]; simp
          · rfl
        rw [e] at hq
        simpa using hq
      | true =>
        obtain ⟨cs, rfl⟩ : ∃ cs, y = .tup cs := by
          cases y with
          | tup cs => exact ⟨_, rfl⟩
          | _ => cases h2
        have hcl : cs.length = m.length + 1 := by
          unfold wide at h2
          simp only [Bool.and_eq_true, decide_eq_true_eq] at h2
          omega
        have hfc : flats cs = true := by have := f1.2; rw [flat] at this; exact this
        have e : sightB m (.tup [x, .tup cs]) = cs.all fun c => within c 0 300 := by
          unfold sightB
          simp only [h1, h2, Bool.true_and]
        rw [e] at hq
        simp only [Bool.not_true, Bool.false_eq_true, if_false, at0, at1, wipeD]
        rw [show cs = cs.map id by simp]
        refine lcW_map id (fun c => .bl (within c 0 300)) cs (fun c hc Kt hk => ?_) (small_size (by omega)) ?_
        · walk_at "rd"
          exact ⟨trivial, _, _, _, rfl, flat_plain (flats_mem hfc hc), hk⟩
        · refine ⟨cs.map fun c => within c 0 300, by rw [List.map_map]; rfl, ?_⟩
          rw [List.all_map]
          exact hq
def F_numbers_told : FD := fun ds Q => ∃ m seen, ds = [mintD m, .tup (seen.map sightD)] ∧ okMint m = true ∧ (1 ≤ seen.length ∧ seen.length ≤ 4) ∧ (∀ s ∈ seen, okSight m s) ∧ Q (truthsD (toldB m seen))
def T_numbers_told : DTS := (dSeq (dDrop (dCall 1 F_look_at_mint (dCons (dVar 0) dNil)))
    (dSeq (dIfS (dtOr (dtNot (dTest (dCall 3 F_is_wide (dCons (dVar 1) (dCons (dC (.int 1)) (dCons (dC (.int 4)) dNil)))))) (dtNot (dTest (dCB dAll (dCons (dLc (dItems (dVar 1)) (dName 2) dYes (dCall 2 F_is_sight (dCons (dVar 0) (dCons (dVar 2) dNil))) [2]) dNil))))) (fun _ _ => False) dNext)
    (dRet (dCall 2 F_steady_truths (dCons (dLc (dRange2 (dCons (dC (.int 1)) (dCons (dBin dAdd (dC (.int 300)) (dC (.int 40))) dNil))) (dName 3) dYes (dCall 3 F_goes_with (dCons (dVar 0) (dCons (dVar 1) (dCons (dVar 3) dNil)))) [3]) (dCons (dC (.int 1)) dNil))))))
theorem rd_numbers_told : ∀ ds Q, ds.length = 2 → F_numbers_told ds Q → T_numbers_told { nx := fun _ => Q .non, rt := Q } (startD 4 ds) := by
  rintro ds Q _ ⟨m, seen, rfl, hm, hl, hs, hq⟩
  have := p30
  unfold T_numbers_told dLc dRange2
  walk_at "rd"
  refine ⟨trivial, m, rfl, hm, ?_⟩
  refine ⟨trivial, _, 1, 4, rfl, (fun z => nomatch z), ?_⟩
  have ew : wide (.tup (seen.map sightD)) 1 4 = true := by
    unfold wide
    simp only [Bool.and_eq_true, decide_eq_true_eq, List.length_map]
    omega
  rw [ew]
  simp only [wipeD, Bool.not_true, Bool.false_eq_true, if_false]
  walk_at "rd"
  refine lcW_map sightD (fun _ => .bl true) seen (fun s hs' Kt hk => ?_) (small_size (by omega)) ?_
  · walk_at "rd"
    refine ⟨trivial, m, _, rfl, (okMint_small hm).1, ?_, ?_⟩
    · unfold sightD intsT; simp [flat, flats, flats_map flat_int]
    · rw [sightB_ok (hs s hs')]; exact hk
  · refine ⟨seen.map fun _ => true, by rw [List.map_map]; rfl, ?_⟩
    have e : (seen.map fun _ => true).all id = true := by rw [List.all_map]; exact List.all_eq_true.mpr fun _ _ => rfl
    rw [e]
    simp only [Bool.not_true, Bool.false_eq_true, if_false]
    refine ⟨⟨by decide, by decide, by decide, by decide⟩, ?_⟩
    rw [range_up]
    refine lcW_map D.int (fun n => match n with | n => .bl (goesB m seen n)) _ (fun n hn Kt hk => ?_) (small_size (by rw [upFrom_len]; decide)) ?_
    · walk_at "rd"
      have hb := upFrom_mem hn
      have : ((300 + 40 - 1 : Int)).toNat = 339 := by decide
      exact ⟨trivial, m, seen, n, rfl, ⟨hm, by omega, by omega⟩, by omega, hk⟩
    · walk_at "rd"
      refine ⟨trivial, rowT (goesB m seen) 339, 1, ?_, by decide, by decide, by rw [rowT_up, List.length_map, upFrom_len]; decide, by rw [rowT_up, List.length_map, upFrom_len]; decide, hq⟩
      rw [rowT_up, List.map_map]
      rfl

end Gf
namespace Gf
open PySem PySem.Spec PyProof.Rows L2
/-! ### one coin, two coins -/
def many2 (f l : Int) : Int := (l - 1) / f + 1
def over2 (f l : Int) : Int := many2 f l * f - l
def good2 (f l : Int) : Bool := decide (1 + over2 f l ≤ many2 f l)
theorem given2 (f a : Int) : given [1, f] a = [a % f, a / f] := by
  unfold given
  simp only [List.reverse_cons, List.reverse_nil, List.nil_append, List.cons_append, givG, Int.ediv_one]
theorem given3 (f l a : Int) : given [1, f, l] a = [a % l % f, a % l / f, a / l] := by
  unfold given
  simp only [List.reverse_cons, List.reverse_nil, List.nil_append, List.cons_append, givG, Int.ediv_one]
theorem badB_two {f : Int} (h : 1 < f) : badB [1, f] = none := by
  have e : others [1, f] = [(f, f)] := by
    unfold others othersAt
    simp only [List.length_cons, List.length_nil, Nat.reduceAdd, Nat.reduceSub]
    have r1 : List.range 1 = [0] := rfl
    rw [r1]
    simp only [List.flatMap_cons, List.flatMap_nil, Nat.zero_add, r1, List.map_cons, List.map_nil, List.append_nil]
    have e1 : ([1, f] : List Int).getD 1 0 = f := rfl
    rw [e1, given2]
    have e2 : (f - 1) % f = f - 1 := Int.emod_eq_of_lt (by omega) (by omega)
    have e3 : (f - 1) / f = 0 := Int.ediv_eq_zero_of_lt (by omega) (by omega)
    rw [e2, e3]
    simp [coinsAt, dot]
  have e2 : badL [1, f] = [] := by
    unfold badL
    rw [e]
    have : (given [1, f] f).sum = 1 := by
      rw [given2, Int.emod_self, Int.ediv_self (by omega)]; rfl
    simp only [List.filter_cons, List.filter_nil, this]
    rw [if_neg (by simp; omega)]
  unfold badB
  rw [e2]
theorem badB_three {f l : Int} (h : 1 < f) (h2 : f < l) : badB [1, f, l] = if good2 f l = true then none else some (many2 f l * f, 1 + over2 f l - many2 f l) := by
  have hq : 1 ≤ (l - 1) / f := by
    rw [Int.le_ediv_iff_mul_le (by omega)]
    omega
  have hr0 : 0 ≤ (l - 1) % f := Int.emod_nonneg _ (by omega)
  have hr1 : (l - 1) % f < f := Int.emod_lt_of_pos _ (by omega)
  have hd : f * ((l - 1) / f) + (l - 1) % f = l - 1 := Int.mul_ediv_add_emod _ _
  have eM : many2 f l * f = f * ((l - 1) / f) + f := by unfold many2; rw [Int.add_mul, Int.mul_comm]; omega
  have hO : over2 f l = f - 1 - (l - 1) % f := by unfold over2; omega
  have e : others [1, f, l] = [(f, f), (l, (l - 1) % f + 1 + (l - 1) / f), (many2 f l * f, many2 f l)] := by
    unfold others othersAt
    simp only [List.length_cons, List.length_nil, Nat.reduceAdd, Nat.reduceSub]
    have r1 : List.range 1 = [0] := rfl
    have r2 : List.range 2 = [0, 1] := rfl
    rw [r2]
    simp only [List.flatMap_cons, List.flatMap_nil, Nat.zero_add, Nat.reduceAdd, r1, r2, List.map_cons, List.map_nil, List.append_nil, List.cons_append, List.nil_append]
    have e1 : ([1, f, l] : List Int).getD 1 0 = f := rfl
    have e2 : ([1, f, l] : List Int).getD 2 0 = l := rfl
    rw [e1, e2, given3, given3]
    have a1 : (f - 1) % l = f - 1 := Int.emod_eq_of_lt (by omega) (by omega)
    have a2 : (f - 1) % f = f - 1 := Int.emod_eq_of_lt (by omega) (by omega)
    have a3 : (f - 1) / f = 0 := Int.ediv_eq_zero_of_lt (by omega) (by omega)
    have a4 : (f - 1) / l = 0 := Int.ediv_eq_zero_of_lt (by omega) (by omega)
    have a5 : (l - 1) % l = l - 1 := Int.emod_eq_of_lt (by omega) (by omega)
    have a6 : (l - 1) / l = 0 := Int.ediv_eq_zero_of_lt (by omega) (by omega)
    rw [a1, a2, a3, a4, a5, a6]
    have b1 : (l - 1) / f * f = f * ((l - 1) / f) := Int.mul_comm _ _
    have b2 : ((l - 1) / f + 1) * f = f * ((l - 1) / f) + f := by rw [Int.add_mul, Int.mul_comm]; omega
    simp [coinsAt, dot, many2, b1, b2]
    omega
  have g1 : (given [1, f, l] f).sum = 1 := by
    rw [given3, Int.emod_eq_of_lt (by omega) h2, Int.emod_self, Int.ediv_self (by omega), Int.ediv_eq_zero_of_lt (by omega) h2]; rfl
  have g2 : (given [1, f, l] l).sum = 1 := by
    rw [given3, Int.emod_self, Int.ediv_self (by omega)]
    simp
  have eA : many2 f l * f = l + over2 f l := by omega
  have g3 : (given [1, f, l] (many2 f l * f)).sum = 1 + over2 f l := by
    rw [given3, eA]
    have c1 : (l + over2 f l) % l = over2 f l := by rw [Int.add_emod_left]; exact Int.emod_eq_of_lt (by omega) (by omega)
    have c2 : (l + over2 f l) / l = 1 := by
      rw [Int.add_ediv_of_dvd_left (Int.dvd_refl l), Int.ediv_self (by omega), Int.ediv_eq_zero_of_lt (by omega) (by omega)]; rfl
    rw [c1, c2, Int.emod_eq_of_lt (by omega) (by omega), Int.ediv_eq_zero_of_lt (by omega) (by omega)]
    simp
    omega
  have hm : 2 ≤ many2 f l := by unfold many2; omega
  unfold badB badL
  rw [e]
  simp only [List.filter_cons, List.filter_nil, g1, g2, g3]
  rw [if_neg (show ¬ (decide (f < 1) = true) by simp; omega), if_neg (show ¬ (decide ((l - 1) % f + 1 + (l - 1) / f < 1) = true) by simp; omega)]
  unfold good2
  by_cases hg : 1 + over2 f l ≤ many2 f l
  · rw [if_neg (show ¬ (decide (many2 f l < 1 + over2 f l) = true) by simp; omega), if_pos (decide_eq_true hg)]
  · rw [if_pos (show decide (many2 f l < 1 + over2 f l) = true by simp; omega), if_neg (by simpa using hg)]
    simp only [minP, List.foldl_nil, g3]
theorem rightB_one (p : Int × Int) (n : Int) : rightB [p] n = decide (1 < p.1 * n + p.2) := by
  have e : wl [p] n = [1, p.1 * n + p.2] := rfl
  unfold rightB struckB
  rw [e, rising, rising, Bool.and_true]
  by_cases h : 1 < p.1 * n + p.2
  · rw [decide_eq_true h, badB_two h]; rfl
  · rw [decide_eq_false h]; rfl
  · simp
def right2 (f l : Int) : Bool := decide (1 < f) && decide (f < l) && good2 f l
theorem rightB_two (p q : Int × Int) (n : Int) : rightB [p, q] n = right2 (p.1 * n + p.2) (q.1 * n + q.2) := by
  have e : wl [p, q] n = [1, p.1 * n + p.2, q.1 * n + q.2] := rfl
  unfold rightB struckB right2
  rw [e, rising, rising, rising, Bool.and_true]
  · generalize p.1 * n + p.2 = f
    generalize q.1 * n + q.2 = l
    by_cases h : 1 < f
    · by_cases h2 : f < l
      · rw [decide_eq_true h, decide_eq_true h2, badB_three h h2]
        cases good2 f l <;> rfl
      · rw [decide_eq_false h2, Bool.and_false, Bool.false_and, Bool.false_and]
    · rw [decide_eq_false h]; rfl
  · simp
theorem badOf_one (p : Int × Int) (n : Int) : badOf [p] n = none := by
  have e : wl [p] n = [1, p.1 * n + p.2] := rfl
  unfold badOf struckB
  rw [e, rising, rising, Bool.and_true]
  · by_cases h : 1 < p.1 * n + p.2
    · rw [if_pos (decide_eq_true h), badB_two h]
    · rw [if_neg (by simpa using h)]
  · simp
def bad2 (f l : Int) : Option (Int × Int) := if (decide (1 < f) && decide (f < l) && !good2 f l) = true then some (many2 f l * f, 1 + over2 f l - many2 f l) else none
theorem badOf_two (p q : Int × Int) (n : Int) : badOf [p, q] n = bad2 (p.1 * n + p.2) (q.1 * n + q.2) := by
  have e : wl [p, q] n = [1, p.1 * n + p.2, q.1 * n + q.2] := rfl
  unfold badOf struckB bad2
  rw [e, rising, rising, rising, Bool.and_true]
  · generalize p.1 * n + p.2 = f
    generalize q.1 * n + q.2 = l
    by_cases h : 1 < f
    · by_cases h2 : f < l
      · rw [decide_eq_true h, decide_eq_true h2, badB_three h h2]
        cases good2 f l <;> rfl
      · rw [decide_eq_false h2, Bool.and_false, Bool.false_and]; rfl
    · rw [decide_eq_false h]; rfl
  · simp
/-- only coins with a told worth: no n within -/
theorem wl_const {m : Mint} (h : ∀ p ∈ m, p.1 = 0) (n : Int) : wl m n = wl m 1 := by
  unfold wl
  congr 1
  refine List.map_congr_left fun p hp => ?_
  rw [h p hp, Int.zero_mul, Int.zero_mul]
theorem rightB_const {m : Mint} (h : ∀ p ∈ m, p.1 = 0) (n : Int) : rightB m n = rightB m 1 := by unfold rightB struckB; rw [wl_const h]
theorem alwaysB_const {m : Mint} (h : ∀ p ∈ m, p.1 = 0) : alwaysB m = (!(struckB m 1) || rightB m 1) := by
  unfold alwaysB
  have e : (fun i : Nat => !(struckB m ((i + 1 : Nat) : Int)) || rightB m ((i + 1 : Nat) : Int)) = fun _ => (!(struckB m 1) || rightB m 1) := by
    funext i
    rw [rightB_const h]
    unfold struckB
    rw [wl_const h]
  rw [e]
  cases (!(struckB m 1) || rightB m 1) with
  | true => exact List.all_eq_true.mpr fun _ _ => rfl
  | false =>
    refine Bool.eq_false_iff.mpr fun z => ?_
    have := List.all_eq_true.mp z 0 (List.mem_range.mpr (by omega))
    cases this
theorem struckB_one (p : Int × Int) (n : Int) : struckB [p] n = decide (1 < p.1 * n + p.2) := by
  show (decide (1 < p.1 * n + p.2) && true) = _
  rw [Bool.and_true]
theorem struckB_two (p q : Int × Int) (n : Int) : struckB [p, q] n = (decide (1 < p.1 * n + p.2) && decide (p.1 * n + p.2 < q.1 * n + q.2)) := by
  show (decide (1 < p.1 * n + p.2) && (decide (p.1 * n + p.2 < q.1 * n + q.2) && true)) = _
  rw [Bool.and_true]
theorem rightRow_one (p : Int × Int) : rightRow [p] = rowT (fun n => decide (1 < p.1 * n + p.2)) (1000 + sizeOf' [p]) := by unfold rightRow; congr 1; funext n; exact rightB_one p n
theorem rightRow_two (p q : Int × Int) : rightRow [p, q] = rowT (fun n => right2 (p.1 * n + p.2) (q.1 * n + q.2)) (1000 + sizeOf' [p, q]) := by unfold rightRow; congr 1; funext n; exact rightB_two p q n
theorem alwaysB_one (p : Int × Int) : alwaysB [p] = true := by
  unfold alwaysB
  refine List.all_eq_true.mpr fun i _ => ?_
  rw [rightB_one, struckB_one]
  cases decide (1 < p.1 * ((i + 1 : Nat) : Int) + p.2) <;> rfl
theorem alwaysB_two (p q : Int × Int) : alwaysB [p, q] = (List.range (1000 + sizeOf' [p, q])).all fun i => !(decide (1 < p.1 * ((i + 1 : Nat) : Int) + p.2) && decide (p.1 * ((i + 1 : Nat) : Int) + p.2 < q.1 * ((i + 1 : Nat) : Int) + q.2)) || right2 (p.1 * ((i + 1 : Nat) : Int) + p.2) (q.1 * ((i + 1 : Nat) : Int) + q.2) := by
  unfold alwaysB
  congr 1
  funext i
  rw [rightB_two, struckB_two]
theorem badRow_one (p : Int × Int) (b : Bool) : badRow [p] b = List.replicate (1000 + 2 * sizeOf' [p]) none := by
  unfold badRow
  refine List.ext_getElem (by simp) fun i h1 h2 => ?_
  simp [badOf_one]
theorem badRow_two (p q : Int × Int) (b : Bool) : badRow [p, q] b = (List.range (1000 + 2 * sizeOf' [p, q])).map fun i => (bad2 (p.1 * ((i + 1 : Nat) : Int) + p.2) (q.1 * ((i + 1 : Nat) : Int) + q.2)).map fun z => if b then z.2 else z.1 := by
  unfold badRow
  refine List.map_congr_left fun i _ => ?_
  rw [badOf_two]
end Gf
namespace Gf
open PySem PySem.Spec PyProof.Rows L2
local macro_rules | `(tactic| walk_at "rd") => `(tactic| simp only [dSeq, dSet, dVar, dC, dRet, dIfS, dtOr, dtAnd, dtNot, dTest, dNot, dAnd, dOr, dIf, dBin, dUn, dCall, dCons, dNil, dCB, dTup, dLst, dDrop, dNext, dPart, dNoPart, dSl, dItems, dName, dgTup, dgCons, dgNil, dYes, dAsg, dPar, dIx, dAdd, dSub, dMul, dFdiv, dMod, dPow, dLt, dLe, dGt, dGe, dNeg, dEq, dNe, dIsN, dNotN, dChain, dIsi, dLen, dTupleOf, dListOf, dAll, dAbs, dInt, startD, dAt_zero, dAt_succ, isN,
  List.map_cons, List.map_nil, List.cons_append, List.nil_append, List.length_cons, List.length_nil, List.set_cons_zero, List.set_cons_succ, List.replicate_succ, List.replicate_zero, Nat.zero_add, Nat.reduceAdd, Nat.reduceSub, List.append_nil])
local macro_rules | `(tactic| walk_at "ev") => `(tactic| (repeat' (first | exact ev_c | exact ea_nil | exact ev_var rfl | refine ea_cons ?_ ?_ | refine ev_tup ?_ (by decide) | refine ev_lst ?_ (by decide) | refine ev_neg ?_ | refine ev_add ?_ ?_ | refine ev_sub ?_ ?_ | refine ev_mul ?_ ?_ (.inl (.inl ⟨by decide, by decide⟩)) | refine ev_addL ?_ ?_ (by decide) | refine ev_addT ?_ ?_ (by decide))))

abbrev F__law_pick : FD := F_pick
def T__law_spring (a : Addr) (ns : List Int) : DTS := (dSeq (dSet 2 (dC (.int 7)))
    (dSeq (dIfS (dTest (dBin dLt (dVar 1) (dLenS 0 a ns))) (dSet 2 (dCB dAbs (dCons (dIxS 0 a ns (dVar 1)) dNil))) dNext)
    (dSeq (dSet 3 (dBin dMod (dCB dInt (dCons (dBin dAdd (dBin dAdd (dBin dMul (dVar 2) (dC (.int 863))) (dBin dMul (dC (.int 524287)) (dVar 1))) (dC (.int 1))) dNil)) (dC (.int 999999999989))))
    (dRetSpr (nLst (dCons (dIf (dTest (dBin dGe (dVar 2) (dBin dPow (dC (.int 10)) (dC (.int 18))))) (dVar 2) (dC (.int 0))) (dCons (dVar 3) dNil)))))))
theorem rd__law_spring : ∀ a ns (j : Nat) (Q : DK), Q .spr → T__law_spring a ns { nx := fun _ => Q .non, rt := Q } (startD 4 [.raw (.ref a), .int j]) := by
  intro a ns j Q hq
  unfold T__law_spring dLenS dIxS dRetSpr nLst
  walk_at "rd"
  refine ⟨trivial, ?_⟩
  have fin : ∀ cell : Int, MulOk cell 863 ∧ MulOk 524287 (j : Int) ∧ (0 : Int) < 999999999989 ∧ CPow 10 18 := fun cell => ⟨.inl (.inr ⟨by omega, by omega⟩), .inl (.inl ⟨by omega, by omega⟩), by omega, by unfold CPow; exact ⟨by decide, by decide, by decide⟩⟩
  by_cases h : (j : Int) < (ns.length : Nat)
  · simp only [h, decide_true, if_true]
    have hj : j < ns.length := by omega
    refine ⟨trivial, j, ns[j], rfl, List.getElem?_eq_getElem hj, ?_⟩
    refine ⟨(fin _).1, (fin 0).2.1, (fin 0).2.2.1, (fin 0).2.2.2, ?_⟩
    repeat' split
    all_goals exact ⟨by decide, ⟨_, _, rfl⟩, hq⟩
  · simp only [h, decide_false, Bool.false_eq_true, if_false]
    refine ⟨(fin _).1, (fin 0).2.1, (fin 0).2.2.1, (fin 0).2.2.2, ?_⟩
    repeat' split
    all_goals exact ⟨by decide, ⟨_, _, rfl⟩, hq⟩
def T__law_pick : OTS := (oSeq (oIf (dTest (dBin dGt (dBin dIx (dVar 0) (dC (.int 0))) (dC (.int 0)))) 0 (oSeq (oSet 0 2 (dBin dMod (dCB dInt (dCons (dBin dIx (dVar 0) (dC (.int 0))) dNil)) (dVar 1)))
    (oSeq (oPut 0 (dC (.int 0)) (dBin dFdiv (dBin dIx (dVar 0) (dC (.int 0))) (dVar 1)))
    (oRet 0 (dVar 2)))) oPass)
    (oSeq (oPut 0 (dC (.int 1)) (dBin dMod (dCB dInt (dCons (dBin dAdd (dBin dMul (dBin dIx (dVar 0) (dC (.int 1))) (dC (.int 393555900739))) (dC (.int 8191))) dNil)) (dC (.int 999999999989))))
    (oRet 0 (dBin dMod (dCB dInt (dCons (dBin dFdiv (dBin dIx (dVar 0) (dC (.int 1))) (dC (.int 4093))) dNil)) (dVar 1)))))
theorem rd__law_pick : ∀ a m x y (Q : DK), 1 ≤ m → m.natAbs.log2 < 9000 → (∀ r, 0 ≤ r → r < m → Q (.int r)) → T__law_pick { nx := fun _ _ => False, rt := fun d xs => (∃ x y, xs = [.int x, .int y]) ∧ plain d = true ∧ Q d } (startD 3 [.raw (.ref a), .int m]) [.int x, .int y] := by
  intro a m x y Q h1 h2 hq
  unfold T__law_pick oSeq oIf oT oSet oPut oRet oPass oE
  walk_at "rd"
  have pi : ∀ i : Int, plain (.int i) = true := fun i => by simp [plain]
  simp only [at0, at1]
  by_cases h : 0 < x
  · simp only [h, decide_true, if_true]
    refine ⟨by omega, pi _, ⟨by omega, h2⟩, pi _, pi _, ?_⟩
    have e : ixN 2 0 = some 0 := rfl
    rw [e]
    exact ⟨⟨_, _, rfl⟩, pi _, hq _ (Int.emod_nonneg _ (by omega)) (Int.emod_lt_of_pos _ (by omega))⟩
  · simp only [h, decide_false, Bool.false_eq_true, if_false]
    refine ⟨.inl (.inr ⟨by omega, by omega⟩), by omega, pi _, pi _, ?_⟩
    have e : ixN 2 1 = some 1 := rfl
    rw [e]
    simp only [List.set_cons_zero, List.set_cons_succ, at1]
    exact ⟨divOk ⟨by decide, by decide +kernel⟩, by omega, ⟨_, _, rfl⟩, pi _, hq _ (Int.emod_nonneg _ (by omega)) (Int.emod_lt_of_pos _ (by omega))⟩
def kindD : D → Int | .non => 0 | .bl _ => 1 | .lst _ => 2 | .tup _ => 3 | .int _ => 4 | .str _ => 5 | _ => 6
def F__law_kind : FD := fun ds Q => ∃ d, ds = [d] ∧ flat d = true ∧ Q (.int (kindD d))
def T__law_kind : DTS := (dSeq (dIfS (dtOr (dTest (dBin dIsN (dVar 0) (dC .non))) (dTest (dCB dIsi (dCons (dVar 0) (dCons (dC (.raw (.ty "bool"))) dNil))))) (dRet (dIf (dTest (dBin dIsN (dVar 0) (dC .non))) (dC (.int 0)) (dC (.int 1)))) dNext)
    (dSeq (dIfS (dTest (dCB dIsi (dCons (dVar 0) (dCons (dTup (dCons (dC (.raw (.ty "list"))) (dCons (dC (.raw (.ty "tuple"))) dNil))) dNil)))) (dRet (dIf (dTest (dCB dIsi (dCons (dVar 0) (dCons (dC (.raw (.ty "list"))) dNil)))) (dC (.int 2)) (dC (.int 3)))) dNext)
    (dRet (dIf (dTest (dCB dIsi (dCons (dVar 0) (dCons (dC (.raw (.ty "int"))) dNil)))) (dC (.int 4)) (dIf (dTest (dCB dIsi (dCons (dVar 0) (dCons (dC (.raw (.ty "str"))) dNil)))) (dC (.int 5)) (dC (.int 6)))))))
theorem rd__law_kind : ∀ ds Q, ds.length = 1 → F__law_kind ds Q → T__law_kind { nx := fun _ => Q .non, rt := Q } (startD 1 ds) := by
  rintro ds Q _ ⟨d, rfl, hf, hq⟩
  have hp := flat_plain hf
  unfold T__law_kind
  walk_at "rd"
  rw [isTy_bool hp, isTy_list hp, isTy_tuple hp, isTy_int hp, isTy_str hp]
  have z2 : (2 : Nat) ≤ sizeLine := by decide
  cases d with
  | raw v => rw [flat] at hf; cases hf
  | spr => rw [flat] at hf; cases hf
  | hob o => rw [flat] at hf; cases hf
  | fnc => rw [flat] at hf; cases hf
  | non => exact hq
  | bl b => exact hq
  | int i => exact ⟨z2, hq⟩
  | str s => exact ⟨z2, hq⟩
  | tup xs => exact ⟨z2, hq⟩
  | lst xs => exact ⟨z2, hq⟩
mutual
def most : D → Nat
  | .tup xs | .lst xs => max xs.length (mosts xs)
  | _ => 0
def mosts : List D → Nat
  | [] => 0
  | d :: ds => max (most d) (mosts ds)
end
def Fr__law_twins (L : Nat) : FD := fun ds Q => ∃ x, ds = [x, x] ∧ flat x = true ∧ deep x ≤ L ∧ most x ≤ 10000 ∧ Q (.bl true)
def F__law_twins : FD := Fr__law_twins 9
def T__law_twins (F__law_twins : FD) : DTS := (dSeq (dIfS (dTest (dBin dNe (dCall 1 F__law_kind (dCons (dVar 0) dNil)) (dCall 1 F__law_kind (dCons (dVar 1) dNil)))) (dRet (dC (.bl false))) dNext)
    (dSeq (dIfS (dTest (dBin dIn (dCall 1 F__law_kind (dCons (dVar 0) dNil)) (dLst (dCons (dC (.int 2)) (dCons (dC (.int 3)) dNil))))) (dRet (dAnd (dBin dEq (dCB dLen (dCons (dVar 0) dNil)) (dCB dLen (dCons (dVar 1) dNil))) (dBin dEq (dLc (dZip (dCons (dVar 0) (dCons (dVar 1) dNil))) (dgTup 2 (dgCons (dName 2) (dgCons (dName 3) dgNil))) (dtNot (dTest (dCall 2 F__law_twins (dCons (dVar 2) (dCons (dVar 3) dNil))))) (dC (.int 1)) [2, 3]) (dLst dNil)))) dNext)
    (dRet (dBin dEq (dVar 0) (dVar 1)))))
theorem mosts_mem : ∀ {xs : List D} {x : D} {k : Nat}, mosts xs ≤ k → x ∈ xs → most x ≤ k
  | y :: ys, x, k, h, m => by
    rw [mosts] at h
    rcases List.mem_cons.mp m with e | m
    · rw [e]; omega
    · exact mosts_mem (by omega) m
theorem deeps_mem : ∀ {xs : List D} {x : D} {k : Nat}, deeps xs ≤ k → x ∈ xs → deep x ≤ k
  | y :: ys, x, k, h, m => by
    rw [deeps] at h
    rcases List.mem_cons.mp m with e | m
    · rw [e]; omega
    · exact deeps_mem (by omega) m
theorem zip_self {α : Type} : ∀ (xs : List α) (p : α × α), p ∈ xs.zip xs → p.1 = p.2 ∧ p.1 ∈ xs
  | [], p, h => by simp at h
  | x :: xs, p, h => by
    rw [List.zip_cons_cons] at h
    rcases List.mem_cons.mp h with e | h
    · rw [e]; exact ⟨rfl, List.mem_cons_self⟩
    · obtain ⟨a, b⟩ := zip_self xs p h
      exact ⟨a, List.mem_cons_of_mem _ b⟩
theorem eqD_strs (a : Str) : eqD (.str a) (.str a) = true := by unfold eqD; simp [toPy, PyData.eqv]
theorem rd__law_twins (L : Nat) (Fr : FD) (hr : ∀ x Q, flat x = true → deep x < L → most x ≤ 10000 → Q (.bl true) → Fr [x, x] Q) : ∀ ds Q, ds.length = 2 → L ≤ 50 → Fr__law_twins L ds Q → T__law_twins Fr { nx := fun _ => Q .non, rt := Q } (startD 4 ds) := by
  rintro ds Q _ hL ⟨x, rfl, hf, hd, hm, hq⟩
  unfold T__law_twins dLc dZip
  walk_at "rd"
  refine ⟨trivial, x, rfl, hf, ?_⟩
  refine ⟨trivial, x, rfl, hf, cmp_int _, cmp_int _, ?_⟩
  rw [eqD_int]
  simp only [decide_true, Bool.not_true, Bool.false_eq_true, if_false]
  refine ⟨trivial, x, rfl, hf, ?_⟩
  unfold dIn
  have e23 : seqOf (.lst [.int 2, .int 3]) = some [.int 2, .int 3] := rfl
  have z2 : (2 : Nat) ≤ sizeLine := by decide
  have z0 : (0 : Nat) ≤ sizeLine := by decide
  rw [e23]
  refine ⟨z2, cmp_int _, by simp [flats, flat], ?_⟩
  have ein : inD (.int (kindD x)) [.int 2, .int 3] = (decide (2 = kindD x) || decide (3 = kindD x)) := by
    unfold inD
    rw [any_toPys]
    simp only [List.any_cons, List.any_nil, eqD_int, Bool.or_false]
  rw [ein]
  have seqs : ∀ xs : List D, seqOf x = some xs → flats xs = true → deeps xs < L → mosts xs ≤ 10000 → xs.length ≤ 10000 → lcW (dgTup 2 (dgCons (dName 2) (dgCons (dName 3) dgNil))) (dtNot (dTest (dCall 2 Fr (dCons (dVar 2) (dCons (dVar 3) dNil))))) (dC (.int 1)) (wipeD [some x, some x, none, none] [2, 3]) (fun y => 0 ≤ sizeLine ∧ cmpb y ∧ cmpb (.lst []) ∧ Q (.bl (eqD y (.lst [])))) (List.map (fun p => D.tup [p.1, p.2]) (xs.zip xs)) [] := fun xs _ h1 h2 h3 h4 => by
    refine lcW_ok (fun p : D × D => D.tup [p.1, p.2]) (fun _ => none) _ [] (fun p hp Kt Kf k => ?_) (by have := small_size (n := (xs.zip xs).length) (by rw [List.length_zip]; omega); simpa using this) ?_
    · obtain ⟨e1, e2⟩ := zip_self xs p hp
      simp only [wipeD]
      walk_at "rd"
      rw [← e1]
      exact ⟨trivial, trivial, hr p.1 _ (flats_mem h1 e2) (Nat.lt_of_le_of_lt (deeps_mem (Nat.le_refl _) e2) h2) (mosts_mem h3 e2) (by simpa using k)⟩
    · have en : List.filterMap (fun _ => (none : Option D)) (xs.zip xs) = [] := by
        induction xs.zip xs with
        | nil => rfl
        | cons a l ih => rw [List.filterMap_cons]; exact ih
      rw [List.nil_append, en]
      have c0 : cmpb (.lst []) := cmp_lst (by rw [flats]) (by rw [deeps]; decide)
      refine ⟨z0, c0, c0, ?_⟩
      rw [eqD_lst, eqvAll_nil]
      exact hq
  cases x with
  | raw v => rw [flat] at hf; cases hf
  | spr => rw [flat] at hf; cases hf
  | hob o => rw [flat] at hf; cases hf
  | fnc => rw [flat] at hf; cases hf
  | non =>
    refine ⟨⟨by rw [flat], by rw [deep]; omega; all_goals exact fun _ z => nomatch z⟩, ⟨by rw [flat], by rw [deep]; omega; all_goals exact fun _ z => nomatch z⟩, ?_⟩
    rw [eqD_non]
    exact hq
  | bl b =>
    refine ⟨cmp_bl _, cmp_bl _, ?_⟩
    rw [eqD_bl, beq_self_eq_true]
    exact hq
  | int i =>
    refine ⟨cmp_int _, cmp_int _, ?_⟩
    rw [eqD_int, decide_eq_true rfl]
    exact hq
  | str s =>
    refine ⟨⟨hf, by rw [deep]; omega; all_goals exact fun _ z => nomatch z⟩, ⟨hf, by rw [deep]; omega; all_goals exact fun _ z => nomatch z⟩, ?_⟩
    rw [eqD_strs]
    exact hq
  | tup xs =>
    rw [flat] at hf
    rw [deep] at hd
    rw [most] at hm
    simp only [kindD]
    refine ⟨cmp_int _, cmp_int _, ?_⟩
    rw [eqD_int, decide_eq_true rfl]
    exact seqs xs rfl hf (by omega) (by omega) (by omega)
  | lst xs =>
    rw [flat] at hf
    rw [deep] at hd
    rw [most] at hm
    simp only [kindD]
    refine ⟨cmp_int _, cmp_int _, ?_⟩
    rw [eqD_int, decide_eq_true rfl]
    exact seqs xs rfl hf (by omega) (by omega) (by omega)

end Gf
namespace Gf
open PySem PySem.Spec PyProof.Rows L2
/-! ### readings, walked from within: what an expression comes to -/
def Ev (te : DE) (δ : DSt) (d : D) : Prop := ∀ K : DK, K d → te δ K
def EvA (ta : DA) (δ : DSt) (ds : List D) : Prop := ∀ K : List D → Prop, K ds → ta δ K
def EvT (tt : DT) (δ : DSt) (b : Bool) : Prop := ∀ K : Bool → Prop, K b → tt δ K
section
variable {δ : DSt} {te tb tc : DE} {ta : DA} {tt tu : DT} {d x y : D} {ds : List D} {i n : Nat} {b c : Bool} {K : DEnds} {t u : DTS}
theorem ev_var (h : dAt δ i = some d) : Ev (dVar i) δ d := fun K k => by unfold dVar; rw [h]; exact k
theorem ev_c : Ev (dC d) δ d := fun K k => k
theorem ea_nil : EvA dNil δ [] := fun K k => k
theorem ea_cons (h : Ev te δ d) (h2 : EvA ta δ ds) : EvA (dCons te ta) δ (d :: ds) := fun K k => h _ (h2 _ k)
theorem ev_tup (h : EvA ta δ ds) (hl : ds.length ≤ sizeLine) : Ev (dTup ta) δ (.tup ds) := fun K k => h _ ⟨hl, k⟩
theorem ev_lst (h : EvA ta δ ds) (hl : ds.length ≤ sizeLine) : Ev (dLst ta) δ (.lst ds) := fun K k => h _ ⟨hl, k⟩
theorem ev_call {F : FD} {r : D} (h : EvA ta δ ds) (hF : ∀ Q : DK, Q r → F ds Q) (hl : ds.length = n) : Ev (dCall n F ta) δ r := fun K k => h _ ⟨hl, hF _ k⟩
theorem ev_cb {F : FD} {r : D} (h : EvA ta δ ds) (hF : ∀ Q : DK, Q r → F ds Q) : Ev (dCB F ta) δ r := fun K k => h _ (hF _ k)
theorem ev_bin {op : O2} {r : D} (h : Ev te δ x) (h2 : Ev tb δ y) (ho : ∀ Q : DK, Q r → op x y Q) : Ev (dBin op te tb) δ r := fun K k => h _ (h2 _ (ho _ k))
theorem ev_un {op : O1} {r : D} (h : Ev te δ x) (ho : ∀ Q : DK, Q r → op x Q) : Ev (dUn op te) δ r := fun K k => h _ (ho _ k)
theorem ev_neg {j : Int} (h : Ev te δ (.int j)) : Ev (dUn dNeg te) δ (.int (-j)) := fun K k => h _ k
theorem et_test (h : Ev te δ (.bl b)) : EvT (dTest te) δ b := fun K k => h _ k
theorem et_not (h : EvT tt δ b) : EvT (dtNot tt) δ (!b) := fun K k => h _ k
theorem et_and (h : EvT tt δ true) (h2 : EvT tu δ b) : EvT (dtAnd tt tu) δ b := fun K k => h _ (by show if true = true then _ else _; rw [if_pos rfl]; exact h2 _ k)
theorem et_andF (h : EvT tt δ false) : EvT (dtAnd tt tu) δ false := fun K k => h _ (by show if false = true then _ else _; rw [if_neg Bool.false_ne_true]; exact k)
theorem et_or (h : EvT tt δ false) (h2 : EvT tu δ b) : EvT (dtOr tt tu) δ b := fun K k => h _ (by show if false = true then _ else _; rw [if_neg Bool.false_ne_true]; exact h2 _ k)
theorem et_orT (h : EvT tt δ true) : EvT (dtOr tt tu) δ true := fun K k => h _ (by show if true = true then _ else _; rw [if_pos rfl]; exact k)
theorem ev_and (h : Ev te δ (.bl true)) (h2 : Ev tb δ d) : Ev (dAnd te tb) δ d := fun K k => h _ (h2 _ k)
theorem ev_andF (h : Ev te δ (.bl false)) : Ev (dAnd te tb) δ (.bl false) := fun K k => h _ k
theorem ev_or (h : Ev te δ (.bl false)) (h2 : Ev tb δ d) : Ev (dOr te tb) δ d := fun K k => h _ (h2 _ k)
theorem ev_ifT (h : EvT tt δ true) (h2 : Ev te δ d) : Ev (dIf tt te tb) δ d := fun K k => h _ (by show if true = true then _ else _; rw [if_pos rfl]; exact h2 _ k)
theorem ev_ifF (h : EvT tt δ false) (h2 : Ev tb δ d) : Ev (dIf tt te tb) δ d := fun K k => h _ (by show if false = true then _ else _; rw [if_neg Bool.false_ne_true]; exact h2 _ k)
theorem ev_add {i j : Int} (h : Ev te δ (.int i)) (h2 : Ev tb δ (.int j)) : Ev (dBin dAdd te tb) δ (.int (i + j)) := fun K k => h _ (h2 _ k)
theorem ev_sub {i j : Int} (h : Ev te δ (.int i)) (h2 : Ev tb δ (.int j)) : Ev (dBin dSub te tb) δ (.int (i - j)) := fun K k => h _ (h2 _ k)
theorem ev_mul {i j : Int} (h : Ev te δ (.int i)) (h2 : Ev tb δ (.int j)) (hm : MulOk i j) : Ev (dBin dMul te tb) δ (.int (i * j)) := fun K k => h _ (h2 _ ⟨hm, k⟩)
theorem ev_addL {xs ys : List D} (h : Ev te δ (.lst xs)) (h2 : Ev tb δ (.lst ys)) (hl : xs.length + ys.length ≤ sizeLine) : Ev (dBin dAdd te tb) δ (.lst (xs ++ ys)) := fun K k => h _ (h2 _ ⟨hl, k⟩)
theorem ev_addT {xs ys : List D} (h : Ev te δ (.tup xs)) (h2 : Ev tb δ (.tup ys)) (hl : xs.length + ys.length ≤ sizeLine) : Ev (dBin dAdd te tb) δ (.tup (xs ++ ys)) := fun K k => h _ (h2 _ ⟨hl, k⟩)
theorem st_seq (h : t { K with nx := fun δ' => u K δ' } δ) : dSeq t u K δ := h
theorem st_set (h : Ev te δ d) (k : K.nx (δ.set i (some d))) : dSet i te K δ := h _ k
theorem st_par {j : Nat} (h : Ev te δ x) (h2 : Ev tb δ y) (k : K.nx ((δ.set i (some x)).set j (some y))) : dPar i j te tb K δ := h _ (h2 _ k)
theorem st_par3 {z : D} {j l : Nat} (h : Ev te δ x) (h2 : Ev tb δ y) (h3 : Ev tc δ z) (k : K.nx (((δ.set i (some x)).set j (some y)).set l (some z))) : dPar3 i j l te tb tc K δ := h _ (h2 _ (h3 _ k))
theorem st_ret (h : Ev te δ d) (k : K.rt d) : dRet te K δ := h _ k
theorem st_asg {g : DG} (h : Ev te δ d) (k : g d δ K.nx) : dAsg te g K δ := h _ k
theorem st_ifT (h : EvT tt δ true) (k : t K δ) : dIfS tt t u K δ := h _ (by show if true = true then _ else _; rw [if_pos rfl]; exact k)
theorem st_ifF (h : EvT tt δ false) (k : u K δ) : dIfS tt t u K δ := h _ (by show if false = true then _ else _; rw [if_neg Bool.false_ne_true]; exact k)
theorem st_if0 (h : EvT tt δ false) (k : K.nx δ) : dIfS tt t dNext K δ := st_ifF h k
theorem gn_cons {r : List D} {g : List D → DSt → (DSt → Prop) → Prop} {Kn : DSt → Prop} (k : g r (δ.set i (some d)) Kn) : dgCons (dName i) g (d :: r) δ Kn := k
theorem gn_nil {Kn : DSt → Prop} (k : Kn δ) : dgNil [] δ Kn := k
theorem st_drop (h : Ev te δ d) (k : K.nx δ) : dDrop te K δ := h _ k
theorem ev_to {d' : D} (h : Ev te δ d) (e : d = d') : Ev te δ d' := e ▸ h
theorem c_twins {x y : D} (e : y = x) (hf : flat x = true) (hd : deep x ≤ 9) (hm : most x ≤ 10000) : ∀ Q : DK, Q (.bl true) → F__law_twins [x, y] Q := fun Q q => ⟨x, by rw [e], hf, hd, hm, q⟩
theorem ev_isN0 (h : Ev te δ .non) : Ev (dBin dIsN te (dC .non)) δ (.bl true) := fun K k => h _ k
theorem ev_isNi {j : Int} (h : Ev te δ (.int j)) : Ev (dBin dIsN te (dC .non)) δ (.bl false) := fun K k => h _ k
theorem b_l {op : O2} {Kd : DK} (h : Ev te δ x) (k : tb δ fun y => op x y Kd) : dBin op te tb δ Kd := h _ k
theorem b_e {op : O2} {Kd : DK} (k : te δ fun x => tb δ fun y => op x y Kd) : dBin op te tb δ Kd := k
theorem a_e {Ka : List D → Prop} (k : te δ fun x => ta δ fun xs => Ka (x :: xs)) : dCons te ta δ Ka := k
theorem par_e {j : Nat} (k : te δ fun x => tb δ fun y => K.nx ((δ.set i (some x)).set j (some y))) : dPar i j te tb K δ := k
theorem set_e (k : te δ fun d => K.nx (δ.set i (some d))) : dSet i te K δ := k
theorem ev_go {Kd : DK} (h : Ev te δ d) (k : Kd d) : te δ Kd := h _ k
end
end Gf
set_option maxHeartbeats 2000000
namespace Gf
open PySem PySem.Spec PyProof.Rows L2 HotX
variable {τ : Tbs}
/-! ### the ends of lists and tuples while an exception is handled -/
section
variable {prog : Program} {w : World} {A : Around} {E : Value → Shared → Prop} {s : Shared}
theorem hot_set {it x1 : Addr} {h : Heap} {f : Obj → Obj} (hot : HotAt A x1 h) (hne : x1 ≠ it) : HotAt A x1 (h.update it f) := by
  obtain ⟨a, o, vs, e, r⟩ := hot
  exact ⟨a, o, vs, by rw [Heap.get?_update_other _ _ (Ne.symm hne)]; exact e, r⟩
theorem nextL_end_hot {it l x1 : Addr} {i : Nat} {items : Array Value} {Q : Option Value → Shared → Prop} (hot : HotAt A x1 s.heap) (hne : x1 ≠ it) (hit : s.heap.IsListIter it l i) (hl : s.heap.IsList l items) (hx : items[i]? = none)
    (hQ : ∀ h', Heap.ExtBut it s.heap h' → Q none { s with heap := h' }) : wpAny (model prog w) A (pyNext (.ref it)) Q E s := by
  obtain ⟨o, ho, hc, hd⟩ := id hit
  obtain ⟨ol, hol, _, nl, hdl⟩ := hl
  unfold pyNext
  refine wpAny_bind (wpAny_attempt (wpAny_callSpecial?_slot (name := Str.ofString "__next__") hit.typeIs slot_listiter_next (wpAny_call_entry slot_listiter_next hit.typeIs entry_listiter_next (?_ : wpAny _ _ (field (.ref it) 0 >>= _) _ _ s) (args_listiter_next _))))
  refine wpAny_bind (wpAny_field ho hd (x := .ref l) rfl (?_ : wpAny _ _ (if (Value.ref l == Value.none) = true then _ else _) _ _ s))
  rw [if_neg (by exact Bool.false_ne_true)]
  refine (?_ : wpAny _ _ (field (.ref it) 1 >>= _) _ _ s)
  refine wpAny_bind (wpAny_field ho hd (x := .int i 0) rfl (?_ : wpAny _ _ (seqItems? (.ref l) >>= _) _ _ s))
  refine wpAny_bind (wpAny_seqItems hol hdl ?_)
  simp only [hx, Int.toNat_natCast]
  refine wpAny_bind (wpAny_rule (wpAny_bind (wpAny_setField ho hd (by simp) (?_ : wpAny _ _ (newExc (.type "StopIteration") [] >>= _) _ _ _))))
  refine wpAny_bind ?_
  simp only [newTuple, newExc]
  refine wpAny_bind (wpAny_newObj_type (wpAny_bind (m := firstArgMember _ _) (wpAny_of_eq (a := Value.none) (by first | rfl | (simp only [firstArgMember]; rfl)) (wpAny_newObj_type ?_ (by size_fits)))) (by size_fits))
  obtain ⟨hh, o1, vs1, h1, d1, c1⟩ := hot_set (f := Obj.mapFields (·.setIfInBounds 0 .none)) hot hne
  refine raiseNew_hot ⟨hh, o1, vs1, Heap.get?_push_of_some _ (Heap.get?_push_of_some _ h1), d1, c1⟩ (Nat.ne_of_lt (Heap.lt_size (Heap.get?_push_of_some _ h1))) (Heap.get?_push_size _ rfl) rfl (by first | (simp; done) | (simp; omega) | (simp only [Array.size_append]; simp; omega)) ?_
  refine wpAny_bind (wpAny_isInstance (T := "StopIteration") (b := true) ⟨_, Heap.get?_update_self _ (Heap.get?_push_size _ rfl) rfl, rfl⟩ isSubtype_stop (wpAny_pure (hQ _ fun b o' hb e => ?_)))
  have e1 : (s.heap.update it (Obj.mapFields (·.setIfInBounds 0 .none))).get? b = some o' := by rw [Heap.get?_update_other _ _ (Ne.symm hb)]; exact e
  exact (Heap.get?_update_other _ _ (Nat.ne_of_gt (Heap.lt_size (Heap.get?_push_of_some _ e1)))).trans (Heap.get?_push_of_some _ (Heap.get?_push_of_some _ e1))
theorem nextT_end_hot {it l x1 : Addr} {i : Nat} {items : Array Value} {Q : Option Value → Shared → Prop} (hot : HotAt A x1 s.heap) (hne : x1 ≠ it) (hit : s.heap.IsTupleIter it l i) (hl : s.heap.IsTuple l items) (hx : items[i]? = none)
    (hQ : ∀ h', Heap.ExtBut it s.heap h' → Q none { s with heap := h' }) : wpAny (model prog w) A (pyNext (.ref it)) Q E s := by
  obtain ⟨o, ho, hc, hd⟩ := id hit
  obtain ⟨ol, hol, _, nl, hdl⟩ := hl
  unfold pyNext
  refine wpAny_bind (wpAny_attempt (wpAny_callSpecial?_slot (name := Str.ofString "__next__") hit.typeIs F.slot_tuple_iterator_next (wpAny_call_entry F.slot_tuple_iterator_next hit.typeIs F.entry_tuple_iterator_next (?_ : wpAny _ _ (field (.ref it) 0 >>= _) _ _ s) (F.args_tuple_iterator_next_1 _))))
  refine wpAny_bind (wpAny_field ho hd (x := .ref l) rfl (?_ : wpAny _ _ (if (Value.ref l == Value.none) = true then _ else _) _ _ s))
  rw [if_neg (by exact Bool.false_ne_true)]
  refine (?_ : wpAny _ _ (field (.ref it) 1 >>= _) _ _ s)
  refine wpAny_bind (wpAny_field ho hd (x := .int i 0) rfl (?_ : wpAny _ _ (seqItems? (.ref l) >>= _) _ _ s))
  refine wpAny_bind (wpAny_seqItems hol hdl ?_)
  simp only [hx, Int.toNat_natCast]
  refine wpAny_bind (wpAny_rule (wpAny_bind (wpAny_setField ho hd (by simp) (?_ : wpAny _ _ (newExc (.type "StopIteration") [] >>= _) _ _ _))))
  refine wpAny_bind ?_
  simp only [newTuple, newExc]
  refine wpAny_bind (wpAny_newObj_type (wpAny_bind (m := firstArgMember _ _) (wpAny_of_eq (a := Value.none) (by first | rfl | (simp only [firstArgMember]; rfl)) (wpAny_newObj_type ?_ (by size_fits)))) (by size_fits))
  obtain ⟨hh, o1, vs1, h1, d1, c1⟩ := hot_set (f := Obj.mapFields (·.setIfInBounds 0 .none)) hot hne
  refine raiseNew_hot ⟨hh, o1, vs1, Heap.get?_push_of_some _ (Heap.get?_push_of_some _ h1), d1, c1⟩ (Nat.ne_of_lt (Heap.lt_size (Heap.get?_push_of_some _ h1))) (Heap.get?_push_size _ rfl) rfl (by first | (simp; done) | (simp; omega) | (simp only [Array.size_append]; simp; omega)) ?_
  refine wpAny_bind (wpAny_isInstance (T := "StopIteration") (b := true) ⟨_, Heap.get?_update_self _ (Heap.get?_push_size _ rfl) rfl, rfl⟩ isSubtype_stop (wpAny_pure (hQ _ fun b o' hb e => ?_)))
  have e1 : (s.heap.update it (Obj.mapFields (·.setIfInBounds 0 .none))).get? b = some o' := by rw [Heap.get?_update_other _ _ (Ne.symm hb)]; exact e
  exact (Heap.get?_update_other _ _ (Nat.ne_of_gt (Heap.lt_size (Heap.get?_push_of_some _ e1)))).trans (Heap.get?_push_of_some _ (Heap.get?_push_of_some _ e1))
/-- a tuple taken apart -/
theorem unpackT_hot {t x1 : Addr} {items : Array Value} {Q : List Value → Shared → Prop} (hot : HotAt A x1 s.heap) (ht : s.heap.IsTuple t items)
    (hQ : ∀ h', Heap.ExtBut s.heap.objs.size s.heap h' → Q items.toList { s with heap := h' }) : wpAny (model prog w) A (unpackItems (.ref t) items.size none) Q E s := by
  obtain ⟨hh, o1, vs1, h1, d1, c1⟩ := hot
  have lt1 : x1 ≠ s.heap.objs.size := Nat.ne_of_lt (Heap.lt_size h1)
  have hlt : t ≠ s.heap.objs.size := by obtain ⟨o, ho, _⟩ := ht; exact Nat.ne_of_lt (Heap.lt_size ho)
  have ht' : IsTup s.heap t items := ht
  unfold unpackItems
  refine wpAny_bind ?_
  unfold notIterableAtAll
  refine wpAny_bind (wpAny_specialOf ht'.typeIs slot_tuple_iter.lookup (wpAny_pure ?_))
  simp only [Bool.false_eq_true, if_false]
  refine wpAny_bind (wpAny_holding (iter_tuple ht' (wpAny_bind (wpAny_holding (draw_tuple hlt items.size 0 _ _ ⟨_, Heap.get?_push_size _ rfl, rfl, rfl⟩ (ht'.push _) (by omega) fun h₁ hit₁ hs₁ => ?_)))))
  have hall : List.take items.size (List.drop 0 items.toList) = items.toList := by rw [List.drop_zero]; exact List.take_of_length_le (by simp)
  rw [hall, if_neg (by simp)]
  have ht₁ : IsTup h₁ t items := (ht'.push _).extBut hs₁.extBut hlt
  have hot₁ : HotAt A x1 h₁ := ⟨hh, o1, vs1, hs₁.extBut _ _ lt1 (Heap.get?_push_of_some _ h1), d1, c1⟩
  refine wpAny_bind (wpAny_holding (nextT_end_hot hot₁ lt1 hit₁ ht₁ (by simp) fun h₂ he₂ => ?_))
  simp only [Option.isSome_none, Bool.false_eq_true, if_false]
  exact wpAny_pure (hQ h₂ fun b o hb e => he₂ b o hb (hs₁.extBut b o hb (Heap.get?_push_of_some _ e)))
end
/-! ### contexts in which an exception is handled -/
/-- the handled exception stands since the context's entry, out of the reach of what is tracked -/
def HotB (X : Cx) : Prop := ∃ (x1 : Addr) (o : Obj) (vs : Array Value), X.A.handled = some (.ref x1) ∧ X.s_0.heap.get? x1 = some o ∧ o.data = .fields vs ∧ vs[2]? = some .none ∧ X.H_0 x1 = none ∧ x1 ∉ X.fs ∧ x1 ∉ X.ex
section
variable {X : Cx} {pins : List (Addr × Obj)} {σ : L2.St} {H : Hp} {s : Shared} {pos : Pos}
theorem HotB.hot (h : HotB X) (I : Inv X pins σ H s) : ∃ x1, HotAt X.A x1 s.heap ∧ x1 ∉ X.ex ∧ x1 < X.s_0.heap.objs.size := by
  obtain ⟨x1, o, vs, hh, e, d, c, n, hf, hx⟩ := h
  exact ⟨x1, ⟨hh, o, vs, I.base.keep x1 o e n hf hx, d, c⟩, hx, Heap.lt_size e⟩
theorem pg_tupB {es : List Expr} {k : Nat} {t : TGs} {n : Nat} (hb : HotB X) (h : PGs X es t) (hn : (assignEach es X.env).length = n := by rfl) (hst : (assignEach es X.env).findIdx? (·.1) = none := by rfl) : PG X (.Tuple es k pos) (gTup X.K n t) := by
  refine ⟨fun pins s σ H v u Q I r ⟨a, xs, e1, hq, hl, hw⟩ => ?_⟩
  subst e1
  cases r
  obtain ⟨x1, hot, _⟩ := hb.hot I
  obtain ⟨its, rv, ht, hz⟩ := I.tuple hq
  have hsz : (assignEach es X.env).length = its.toArray.size := by simp [hn, ← hl, rv.length]
  rw [PyProof.Rows.assign_Tuple]
  refine wpAny_bind (wpAny_standAt ?_)
  unfold unpack
  rw [hsz, hst]
  refine wpAny_bind (wpAny_holding (unpackT_hot hot ht fun h' hx => ?_))
  have I1 : Inv X pins σ H { s with heap := h' } := I.kept (t' := s.toks) fun b o e => hx b o (Nat.ne_of_lt (Heap.lt_size e)) e
  exact h.run pins _ σ H xs _ Q I1 (by simpa using rv) hw
def dgTupB (n : Nat) (u : List D → DSt → (DSt → Prop) → Prop) : DG := fun d δ K => match d with | .tup xs => xs.length = n ∧ u xs δ K | _ => False
theorem pdg_tupB {H0 : Hp} {es : List Expr} {vs : List Nat} {k n : Nat} {u : List D → DSt → (DSt → Prop) → Prop} (hb : HotB X) (h : PDGs τ X H0 vs es u) (hn : (assignEach es X.env).length = n := by rfl) (hst : (assignEach es X.env).findIdx? (·.1) = none := by rfl) :
    PDGv τ X H0 vs (.Tuple es k pos) (dgTupB n u) := by
  refine ⟨fun Mu => PG.imp (pg_tupB hb (h.pg Mu) hn hst) fun v σ H Q ⟨hl, d, δ, K, e, r, h, q⟩ => ?_⟩
  unfold dgTupB at h
  split at h
  · cases r with
    | tup a1 a2 => exact ⟨_, _, rfl, .of a1, by rw [a2.length]; exact h.1, hl, _, δ, K, e, a2, h.2, q⟩
  · exact h.elim
/-- the context of a block of such a context -/
theorem HotB.blk {H1 : Hp} {s1 : Shared} {scope : Scope} {ce : Env} {fp : List Addr} (h : HotB X) (I : Inv X pins σ H1 s1) (n1 : ∀ b ∈ fp, X.s_0.heap.objs.size ≤ b) : HotB (X.blk s1 H1 scope ce fp) := by
  obtain ⟨x1, o, vs, hh, e, d, c, n, hf, hx⟩ := h
  have lt := Heap.lt_size e
  refine ⟨x1, o, vs, hh, I.base.keep x1 o e n hf hx, d, c, I.base.free x1 o e n hx, fun z => ?_, fun z => Nat.lt_irrefl _ (Nat.lt_of_lt_of_le lt (n1 x1 z))⟩
  rcases List.mem_cons.mp (I.stkSub x1 z) with y | y
  · rw [y] at lt
    exact Nat.lt_irrefl _ (Nat.lt_of_lt_of_le lt I.ok.above)
  · exact hf y
def tLcB (K : PySem.W.Frag) (i : Nat) (g : TG) (tt : TT) (te : TE) (vs : List Nat) : TE := fun σ H Q => ∃ l xs, σ[i]? = some (some (.ref l)) ∧ H l = some (.lst xs) ∧ ∀ D, H D = none → ∃ W : Nat → Nat → Hp → Prop, (∃ m, W 0 m (upd H D (.lst []))) ∧ ∀ i m H, W i m H →
  ((Itl K l).stop i H ∧ Q (.ref D) H) ∨ ((Itl K l).go i H ∧ ∃ Nx : Hp → Prop, (∀ H', Nx H' → ∃ m', m' < m ∧ W (i + 1) m' H') ∧ ∀ x H', (Itl K l).yld i H x H' → g x (L2.wipe σ vs) H' fun σ2 H2 => L2.wipe σ2 vs = L2.wipe σ vs ∧ tt σ2 H2 fun b H3 =>
    if b = true then te σ2 H3 fun y H4 => ∃ acc, H4 D = some (.lst acc) ∧ acc.length < sizeLine ∧ Nx (upd H4 D (.lst (acc ++ [y]))) else Nx H3)
/-- [elt for tg in x if ..] over a list, where an exception is handled -/
theorem pe_lcB {elt tg : Expr} {ifs : List Expr} {scope : Scope} {own : List (Str × Nat)} {i : Nat} {x : Str} {p : Pos} {g : TG} {tt : TT} {te : TE} (hb : HotB X) (hN : X.N.Nodup) (hi : X.N[i]? = some x) (hv : Vis X.env.scope x) (hd : (x == ("__debug__" : Str)) = false) (hcd : (x == ("__classdict__" : Str)) = false) (ok : BlkOk X.N X.env.scope scope own)
    (hg : ∀ (s : Shared) (H : Hp) (C : Addr) (cl : List (Str × Addr)) (fp : List Addr), HotB (X.blk s H scope (compEnvC scope cl C X.env) fp) → PG (X.blk s H scope (compEnvC scope cl C X.env) fp) tg g) (ht : ∀ (s : Shared) (H : Hp) (C : Addr) (cl : List (Str × Addr)) (fp : List Addr), PTs (X.blk s H scope (compEnvC scope cl C X.env) fp) ifs tt)
    (he : ∀ (s : Shared) (H : Hp) (C : Addr) (cl : List (Str × Addr)) (fp : List Addr), PE (X.blk s H scope (compEnvC scope cl C X.env) fp) elt te) (hs : ∀ y, foldedSetIterable (.Name x p) X.env y = pure y) (hgo : ∀ (A : Around) (it : Addr) (u : Value) (E : Value → Shared → Prop) (Q : Unit → Shared → Prop) (l : Addr) (j : Nat) (s : Shared), s.heap.IsListIter it l j → Q () s → wpAny (model X.prog X.w) A (letOwnedTupleGo tg (.ref it) u) Q E s) :
    PE X (.ListComp elt [⟨tg, .Name x p, ifs, 0⟩] scope pos) (tLcB X.K i g tt te (own.map (·.2))) := by
  refine ⟨fun pins s σ H Q I ⟨l, xs, hσ, hl, q⟩ => ?_⟩
  have hclos : ∀ y ∈ scope.names, y.2 = .free → ∃ c, X.env.cells.lookup y.1 = some c := fun y hy e => (ok.free y hy e).elim (fun k => I.ok.has _ (.inl k)) fun k => I.ok.has _ (.inr k)
  rw [eval_ListComp]
  refine wpAny_comprehension_free (use := none) rfl hs (closure_ok hclos) ok.kind (fun y hy e => by rw [ok.uniq y hy, e]) (thn ((pe_var (pos := p) (i := i) hi hv hd hcd).run pins s σ H (fun v H' => v = .ref l ∧ H' = H) I ⟨.ref l, hσ, rfl, rfl⟩) fun xv s1 ⟨v, H', I1, r1, e1, e2⟩ => ?_)
  subst e1 e2
  obtain rfl : xv = Value.ref l := r1
  obtain ⟨its, rv, pl, hz⟩ := I1.list (.of hl)
  obtain ⟨it, hit⟩ : ∃ it, it = s1.heap.objs.size := ⟨_, rfl⟩
  obtain ⟨s2, hs2⟩ : ∃ s2 : Shared, s2 = { s1 with heap := s1.heap.push { cls := .type "list_iterator", data := .fields #[.ref l, .int 0 0] } } := ⟨_, rfl⟩
  have I2 : Inv X pins σ H' s2 := by rw [hs2]; exact I1.kept (t' := s1.toks) fun b o e => Heap.get?_push_of_some _ e
  have it2 : s2.heap.IsListIter it l 0 := by rw [hs2, hit]; exact ⟨_, Heap.get?_push_size _ rfl, rfl, rfl⟩
  have fit : FpOk X pins H' it := by rw [hit]; exact I1.fpOk (Nat.le_refl _) (I1.hok.fresh (Nat.le_refl _))
  have git : X.s_0.heap.objs.size ≤ it := by rw [hit]; exact I1.sz
  have lit : it < s2.heap.objs.size := by obtain ⟨o, e, _⟩ := it2; exact Heap.lt_size e
  refine wpAny_pyIter_list pl.isList ?_
  rw [← hs2, ← hit]
  refine wpAny_newObj_type (newEnv_comp ?_) (by show (0 : Nat) ≤ sizeLine; decide)
  obtain ⟨D, hD⟩ : ∃ D, D = s2.heap.objs.size := ⟨_, rfl⟩
  have hDn : H' D = none := I2.hok.fresh (Nat.le_of_eq hD.symm)
  obtain ⟨W, ⟨m0, w0⟩, turn⟩ := q D hDn
  obtain ⟨s3, hs3⟩ : ∃ s3 : Shared, s3 = { s2 with heap := s2.heap.push { cls := .type "list", data := .seq ([] : List Value).toArray } } := ⟨_, rfl⟩
  have I3 : Inv X pins σ (upd H' D (.lst [])) s3 := by
    rw [hs3]
    exact I2.laid (t' := s2.toks) (fun b o e => Heap.get?_push_of_some _ e) (Nat.le_of_eq hD.symm) ⟨Nat.zero_le _, [], 0, .nil, by rw [hD]; exact Heap.get?_push_size _ rfl⟩
  have nitD : it ≠ D := by rw [hD]; exact Nat.ne_of_lt lit
  have h3 : s3.heap = s2.heap.push { cls := .type "list", data := .seq ([] : List Value).toArray } := by rw [hs3]
  have f3 : ∀ b ∈ [it], FpOk X pins (upd H' D (.lst [])) b ∧ b < s3.heap.objs.size := fun b hb => by
    obtain rfl := List.mem_singleton.mp hb
    exact ⟨⟨by rw [upd_ne nitD]; exact fit.1, fit.2⟩, by rw [h3, Heap.size_push]; exact Nat.lt_succ_of_lt lit⟩
  have I4 := block_start I3 ok hN f3
  have hB := hb.blk (scope := scope) (ce := compEnvC scope (cellsFrom (s3.heap.objs.size + 1) scope.names (cloFrom X.env.cells scope.names [])) s3.heap.objs.size X.env) (fp := [it]) I3 fun b hb => by rw [List.mem_singleton.mp hb]; exact git
  have pg := hg s3 (upd H' D (.lst [])) s3.heap.objs.size (cellsFrom (s3.heap.objs.size + 1) scope.names (cloFrom X.env.cells scope.names [])) [it] hB
  have pt := ht s3 (upd H' D (.lst [])) s3.heap.objs.size (cellsFrom (s3.heap.objs.size + 1) scope.names (cloFrom X.env.cells scope.names [])) [it]
  have pe := he s3 (upd H' D (.lst [])) s3.heap.objs.size (cellsFrom (s3.heap.objs.size + 1) scope.names (cloFrom X.env.cells scope.names [])) [it]
  rw [← hD, ← hs3]
  show codeAny _ _ (.compStart (.ListComp elt [⟨tg, .Name x p, ifs, 0⟩] scope pos) 0 (.ref it) (.ref D) (compEnvC scope (cellsFrom (s3.heap.objs.size + 1) scope.names (cloFrom X.env.cells scope.names [])) s3.heap.objs.size X.env)) (compPost (model X.prog X.w) X.A X.xe none (EP X pins σ Q) (.ref D) s3.heap.objs.size) { s3 with heap := pushCells (s3.heap.push { cls := .type "dict", data := .dict #[] }) scope.names }
  generalize hce : compEnvC scope (cellsFrom (s3.heap.objs.size + 1) scope.names (cloFrom X.env.cells scope.names [])) s3.heap.objs.size X.env = ce at I4 pg pt pe hB ⊢
  have cL : ce.locals = s3.heap.objs.size := by rw [← hce]; rfl
  have nit0 : (upd H' D (.lst [])) it = none := (f3 it (by simp)).1.1
  have f3i := (f3 it (by simp)).1
  clear f3
  obtain ⟨H3, eH3⟩ : ∃ H3, H3 = upd H' D (.lst []) := ⟨_, rfl⟩
  rw [← eH3] at I3 I4 pg pt pe hB w0 nit0 f3i
  obtain ⟨s4, es4⟩ : ∃ s4 : Shared, s4 = { s3 with heap := pushCells (s3.heap.push { cls := .type "dict", data := .dict #[] }) scope.names } := ⟨_, rfl⟩
  rw [← es4] at I4 ⊢
  have it3 : s3.heap.IsListIter it l 0 := it2.at fun o e => by rw [h3]; exact Heap.get?_push_of_some _ e
  have it4 : s4.heap.IsListIter it l 0 := it3.at fun o e => by rw [es4]; exact pushCells_keeps _ _ _ _ (Heap.get?_push_of_some _ e)
  have stat : ∀ {σ' : L2.St} {H5 : Hp} {s5 : Shared}, Inv (X.blk s3 H3 scope ce [it]) [] σ' H5 s5 → H5 it = none → FpOk (X.blk s3 H3 scope ce [it]) [] H5 it := fun {σ' H5 s5} J hn =>
    ⟨hn, (J.ok.exf it (List.mem_singleton.mpr rfl)).1, J.ok.exfs it (List.mem_singleton.mpr rfl), .inl (List.mem_singleton.mpr rfl), fun y c e => (J.ok.exf it (List.mem_singleton.mpr rfl)).2 y c e, fun r hr => absurd (show r ∈ ([] : List (Addr × Obj)) ++ [] from hr) (by simp)⟩
  have loop : codeAny (model X.prog X.w) X.A (.compLoop (.ListComp elt [⟨tg, .Name x p, ifs, 0⟩] scope pos) 0 (.ref it) (.ref D) ce) (compPost (model X.prog X.w) X.A X.xe none (EP X pins σ Q) (.ref D) s3.heap.objs.size) s4 := by
    refine compLoop_any (fun n s5 => ∃ j H5, Inv (X.blk s3 H3 scope ce [it]) [] (L2.wipe σ (own.map (·.2))) H5 s5 ∧ s5.heap.IsListIter it l j ∧ H5 it = none ∧ W j n H5) ?_ m0 ⟨0, H3, I4, it4, nit0, w0⟩
    rintro n s5 ⟨j, H5, I5, it5, n5, w5⟩
    have F5 := stat I5 n5
    obtain ⟨x1, hot5, nx1, _⟩ := hB.hot I5
    have ne1 : x1 ≠ it := fun z => nx1 (by rw [z]; exact List.mem_singleton.mpr rfl)
    rcases turn j n H5 w5 with ⟨⟨ys, hys, hj⟩, qq⟩ | ⟨⟨ys, y, hys, hy⟩, Nx, hNx, step⟩
    · obtain ⟨its5, rv5, pl5, _⟩ := I5.list hys
      have l5 := rv5.length
      refine nextL_end_hot hot5 ne1 it5 pl5.isList (by simp; omega) fun h' eb => ?_
      have I6 : Inv (X.blk s3 H3 scope ce [it]) [] (L2.wipe σ (own.map (·.2))) H5 { s5 with heap := h' } := I5.turned (t' := s5.toks) (fun b o hb e => eb b o hb e) F5.1 F5.2.1 F5.2.2.2.1 F5.2.2.2.2.1 F5.2.2.2.2.2
      have I7 : Inv X pins σ H5 { s5 with heap := h' } := I3.call' (ch := [it]) I6.os I6.base I6.hok I6.bare fun b hb => by
        obtain rfl := List.mem_singleton.mp hb
        exact ⟨f3i.2.2.2.1, f3i.2.1, f3i.2.2.2.2.1, f3i.2.2.2.2.2⟩
      have nC : H5 s3.heap.objs.size = none := by rw [← cL]; exact I6.free
      obtain ⟨m, hn, _⟩ := I6.loc
      have hn' : h'.Ns s3.heap.objs.size m := by rw [← cL]; exact hn
      have fC := I3.fpOk (Nat.le_refl _) nC
      obtain ⟨g0, g1, g2, g3, g4, g5⟩ := fC
      exact ⟨m, hn', fun h2 sb => ⟨.ref D, H5, I7.turned (t' := s5.toks) (fun b o hb e => (sb.2 b hb).trans e) g0 g1 g3 g4 g5, rfl, qq⟩⟩
    · obtain ⟨its5, rv5, pl5, _⟩ := I5.list hys
      obtain ⟨u, hu, ru⟩ := rv5.get hy
      refine wpAny_pyNext_list_item it5 pl5.isList (x := u) (by simpa using hu) fun h' it6 sb => ?_
      have I6 : Inv (X.blk s3 H3 scope ce [it]) [] (L2.wipe σ (own.map (·.2))) H5 { s5 with heap := h' } := I5.turned (t' := s5.toks) (fun b o hb e => (sb.2 b hb).trans e) F5.1 F5.2.1 F5.2.2.2.1 F5.2.2.2.2.1 F5.2.2.2.2.2
      refine hgo _ it u _ _ l (j + 1) { s5 with heap := h' } it6 ?_
      have ob : ∀ b ∈ [it], ∃ o, h'.get? b = some o ∧ ∀ v, o.data ≠ .cell v := fun b hb => by
        obtain rfl := List.mem_singleton.mp hb
        obtain ⟨o, e, _, dd⟩ := it6
        exact ⟨o, e, fun v z => by rw [dd] at z; cases z⟩
      have I6' := I6.pinned (fp := [it]) (fun b hb => by obtain rfl := List.mem_singleton.mp hb; exact stat I6 n5) ob
      refine thnF (pg.run _ { s5 with heap := h' } _ H5 y u _ I6' ru (step y H5 ⟨rfl, fun zs hz => by rw [I5.list_inj hz hys]; exact hy⟩)) fun _ s8 ⟨σ8, H8, I8, hw8, q8⟩ => ?_
      refine thnF (pt.run _ s8 σ8 H8 _ I8 q8) fun b s9 ⟨H9, I9, q9⟩ => ?_
      have fin : ∀ {s' : Shared} {H6 : Hp}, Inv (X.blk s3 H3 scope ce [it]) ([] ++ pinsAt [it] h') σ8 H6 s' → Nx H6 → ∃ m, m < n ∧ ∃ j H5, Inv (X.blk s3 H3 scope ce [it]) [] (L2.wipe σ (own.map (·.2))) H5 s' ∧ s'.heap.IsListIter it l j ∧ H5 it = none ∧ W j m H5 := fun {s' H6} J nx => by
        obtain ⟨m', hm, w'⟩ := hNx H6 nx
        obtain ⟨o, e, cc, dd⟩ := it6
        have pin' := J.pin (it, o) (List.mem_append_right _ (List.mem_append_right _ (mem_pinsAt (List.mem_singleton.mpr rfl) e)))
        refine ⟨m', hm, j + 1, H6, (J.unpinned (pins := [])).weak (by rw [← hw8, wipe_length]) (fun k v e => by rw [← hw8] at e; exact (wipe_some e).1), ⟨o, pin'.1, cc, dd⟩, pin'.2.1, w'⟩
      cases b with
      | false => exact fin I9 (by simpa using q9)
      | true =>
        simp only [if_true] at q9 ⊢
        refine thnF (pe.run _ s9 σ8 H9 _ I9 q9) fun z s10 ⟨yv, H10, I10, r10, acc, hD10, hz10, nx⟩ => ?_
        exact app_ok (X := X.blk s3 H3 scope ce [it]) I10 hD10 hz10 r10 fun s11 I11 => fin I11 nx
  exact codeAny_compStart_list loop (wpAny_pyIter_listiter it4 loop)
end
end Gf
namespace Gf
open PySem PySem.Spec PyProof.Rows L2 L2H HotX
variable {τ : Tbs}
section
variable {X : Cx} {H0 : Hp} {pos : Pos}
/-! ### what _law_error_of needs -/
/-- the target of a list's turn is no own tuple of an iterator -/
theorem go_list {M : Model} {A : Around} {tg : Expr} {it l : Addr} {j : Nat} {u : Value} {s : Shared} {Q : Unit → Shared → Prop} {E : Value → Shared → Prop} (h : s.heap.IsListIter it l j) (q : Q () s) : wpAny M A (letOwnedTupleGo tg (.ref it) u) Q E s := by
  obtain ⟨o, e, c, d⟩ := h
  exact go_of e c d (by decide) q
variable {elt tg : Expr} {ifs : List Expr} {scope : Scope} {own : List (Str × Nat)} {g : DG} {tt : DT} {te : DE}
/-- [elt for tg in x if ..], x a list in a slot, an exception being handled -/
def dLcB (i : Nat) (g : DG) (tt : DT) (te : DE) (vs : List Nat) : DE := fun δ K => match dAt δ i with | some (.lst xs) => lcW g tt te (wipeD δ vs) K xs [] | _ => False
theorem pd_lcB {i : Nat} {x : Str} {p : Pos} (hb : HotB X) (hN : X.N.Nodup) (ok : BlkOk X.N X.env.scope scope own)
    (hg : ∀ (s : Shared) (H : Hp) (C : Addr) (cl : List (Str × Addr)) (fp : List Addr), HotB (X.blk s H scope (compEnvC scope cl C X.env) fp) → PDGv τ (X.blk s H scope (compEnvC scope cl C X.env) fp) H0 (own.map (·.2)) tg g)
    (ht : ∀ (s : Shared) (H : Hp) (C : Addr) (cl : List (Str × Addr)) (fp : List Addr), PDTs τ (X.blk s H scope (compEnvC scope cl C X.env) fp) H0 ifs tt)
    (he : ∀ (s : Shared) (H : Hp) (C : Addr) (cl : List (Str × Addr)) (fp : List Addr), PD τ (X.blk s H scope (compEnvC scope cl C X.env) fp) H0 elt te)
    (hi : X.N[i]? = some x := by rfl) (hv : Vis X.env.scope x := by first | exact Or.inl rfl | exact Or.inr (Or.inl rfl) | exact Or.inr (Or.inr rfl)) (hd : (x == ("__debug__" : Str)) = false := by decide) (hcd : (x == ("__classdict__" : Str)) = false := by decide)
    (hs : ∀ y, foldedSetIterable (.Name x p) X.env y = pure y := by intro _; rfl) : PD τ X H0 (.ListComp elt [⟨tg, .Name x p, ifs, 0⟩] scope pos) (dLcB i g tt te (own.map (·.2))) := by
  refine ⟨fun Mu => ⟨fun pins s σ H Q I hw => ?_⟩⟩
  refine (pe_lcB (g := anG τ H0 X.N.length (own.map (·.2)) g) hb hN hi hv hd hcd ok (fun s H C cl fp hh => (hg s H C cl fp hh).an) (fun s H C cl fp => (ht s H C cl fp).an) (fun s H C cl fp => (he s H C cl fp).an) hs (fun A it u E Q l j s h q => go_list h q)).run pins s σ H Q I ?_
  obtain ⟨δ, K, e, h, q⟩ := hw
  unfold dLcB at h
  split at h
  · rename_i xs hx
    obtain ⟨v0, e0, r0⟩ := e.at_ i _ (dAt_some hx)
    cases r0 with
    | lst a1 a3 a2 => exact ⟨_, _, e0, a1, fun D hD => lc_read I.len δ K e q xs h _ H (Same.refl H) (dw_list a1 a3 a2) D hD⟩
  · exact h.elim
/-- sep.join(a list of texts) -/
def strsOf : List D → Option (List Str)
  | [] => some []
  | .str x :: ds => (strsOf ds).map (x :: ·)
  | _ => none
theorem strsOf_some : ∀ {ds : List D} {ys : List Str}, strsOf ds = some ys → ds = ys.map .str
  | [], ys, h => by cases h; rfl
  | .str x :: ds, ys, h => by
    unfold strsOf at h
    cases e : strsOf ds with
    | none => rw [e] at h; cases h
    | some zs => rw [e] at h; cases h; rw [strsOf_some e]; rfl
  | .non :: _, _, h => by cases h
  | .bl _ :: _, _, h => by cases h
  | .int _ :: _, _, h => by cases h
  | .tup _ :: _, _, h => by cases h
  | .lst _ :: _, _, h => by cases h
  | .raw _ :: _, _, h => by cases h
  | .spr :: _, _, h => by cases h
  | .hob _ :: _, _, h => by cases h
  | .fnc _ _ _ _ _ _ :: _, _, h => by cases h
def dJoin : O2 := fun d e K => match d, e with | .str a, .lst ds => (match strsOf ds with | some ys => (ys.map (·.length)).sum + ys.length * a.length ≤ 16777216 ∧ K (.str (Txt.join a ys)) | none => False) | _, _ => False
def dJn (to te : DE) : DE := fun δ K => to δ fun d => match d with | .str a => te δ fun e => dJoin (.str a) e K | _ => False
theorem pd_join {o e : Expr} {to te : DE} {apos pos : Pos} (ho : PD τ X H0 o to) (he : PD τ X H0 e te) (hs : starEach [e] X.env = [(false, eval e X.env)] := by rfl) (hbase : attributeBase o "join" X.env (eval o X.env) = eval o X.env := by rfl) (hline : (apos.endLine == pos.line) = true := by rfl) :
    PD τ X H0 (.Call (.Attribute o "join" apos) [e] [] pos) (dJn to te) := by
  refine ⟨fun Mu => PE.imp (pe_join (ho.pe Mu) (he.pe Mu) hs hbase hline) fun σ H Q ⟨δ, K, e1, h, q⟩ => ⟨δ, _, e1, h, fun d1 h1 v1 H1 s1 r1 => ?_⟩⟩
  split at h1
  · cases r1
    refine ⟨⟨_, rfl⟩, δ, _, e1.same s1, h1, fun d2 h2 v2 H2 s2 r2 => ?_⟩
    unfold dJoin at h2
    split at h2
    · rename_i a ds ea
      cases ea
      split at h2
      · rename_i ys ey
        cases r2 with
        | lst a1 a3 a2 =>
          rw [strsOf_some ey] at a2
          have e2 := a2.strs
          subst e2
          exact ⟨_, _, ys, rfl, rfl, .inl (.of a1), h2.1, q _ h2.2 _ _ (s1.trans s2) (.str _)⟩
      · exact h2.elim
    · exact h2.elim
  · exact h1.elim
end
/-! ### isinstance of the handled exception -/
section
variable {X : Cx} {H0 : Hp} {pos : Pos}
theorem call_isH {D : Addr} {p : Addr × Obj} (C : ExcC X.K D) (hp : p ∈ X.pn) (hz : Zc (.ref D) none p.2) (hf : ∃ vs, p.2.data = .fields vs) : CallR X (.builtin "isinstance") (rIsE X.K D p.1) := by
  intro pins s σ H xs us Q I r ⟨c, cv, b, e1, hcv, e, q⟩
  subst e1
  rcases r with _ | ⟨rx, _ | ⟨rt, _ | _⟩⟩
  cases rx
  have ec := hcv _ rt
  subst ec
  obtain ⟨hget, _⟩ := I.pin p (List.mem_append_left _ hp)
  obtain ⟨vs, hv⟩ := hf
  have J : PySem.W.InstAt s.heap p.1 p.2 D none := by
    obtain ⟨p1, oc, od, oda, osl⟩ := p
    obtain ⟨h1, h2⟩ := hz
    dsimp only at h1 h2 hv
    subst h1 h2 hv
    exact ⟨hget, rfl, rfl, trivial⟩
  exact PySem.W.kia_one (PySem.W.handS_kitx_exc C.hg C.hk C.hs C.hd C.ha C.hn C.ht C.hm) I.kIn J e (fun z => nomatch z) fun tk => ⟨.bl b, H, I.kept (t' := tk) fun _ _ z => z, rfl, q⟩
end
end Gf
namespace Gf
open PySem PySem.Spec PyProof.Rows L2 L2H HotX
variable {τ : Tbs}
/-! ### a def that is called while an exception is handled, its promise told of that exception -/
theorem hotB_cxH {CX : CXT} {P : Program} {w : World} {K : PySem.W.Frag} {mg : Str → Option Value} {base : Heap} {N : List Str} {qual : Str} {scope : Scope} {f : Addr} {cd : Value} {A : Around} {outer : List Env} {s : Shared} {H : Hp} {E : XK} {p : Addr × Obj}
    (hot : Hot1 A p) (pin : PinOk outer H s p) : HotB (cxH CX P w K mg base N qual scope f cd A outer s H E p).nox := by
  obtain ⟨hh, vs, hd, hc⟩ := hot
  exact ⟨p.1, p.2, vs, hh, pin.get, hd, hc, pin.free, pin.nofs, fun z => nomatch (show p.1 ∈ ([] : List Addr) from z)⟩
theorem run_hot {P : Program} {w : World} {K : PySem.W.Frag} {mg : Str → Option Value} {base : Heap} {k : Nat} {f : Addr} {x : Str} {st : Stmt} {fd : FuncData} {N ps : List Str} (F : Fun K x x st f fd) (S : FnScope N ps (defScope st))
    {A : Around} {outer : List Env} {s : Shared} {H : Hp} {args : Args} {us : List Value} {vs : List V} {Q : VK} {p : Addr × Obj} (hr : RoomH (k + 1) A) (pin : PinOk outer H s p) (e0 : Env0 P w K mg base A outer s H) (hb : BindsTo s fd args (ps.zip us)) (r : Vals vs us) (hl : vs.length = ps.length)
    (hbody : ∀ cdv : Value, RoomH k (A.deeper (envOfC x (defScope st) s.heap.objs.size f cdv)) → ∃ t, PSs (cxH CX0 P w K mg base N x (defScope st) f cdv A outer s H (fun _ _ _ => False) p).nox (defBody st) t ∧ t { nx := fun _ H' => Q .non H', rt := Q } (L2.start N vs) H) :
    codeAny (model P w) A (.call (.ref f) args) (CR CX0 outer P w H s Q (fun _ _ _ => False)) s := by
  obtain ⟨oc, od, kV, doc, pm, an, cdv, ct, osl, e1, lk, hcd⟩ := F.ex
  subst e1
  have KX : K.In s.heap := e0.mod.kin.keeps fun b o e => (e0.bs b o e).1
  have lim := e0.mod.nolimit.keeps fun b o e => (e0.bs b o e).1
  have hkind : ∀ y ∈ ps.zip us, (defScope st).names.lookup y.1 = some .local ∨ ((defScope st).names.lookup y.1 = some .cell ∧ ((cellsFrom (s.heap.objs.size + 1) (defScope st).names []).lookup y.1).isSome = true) := by
    intro y hy
    obtain ⟨n, v⟩ := y
    exact (S.par n (List.of_mem_zip hy).1).imp id fun q => ⟨q, PySem.W.cellsFrom_some _ _ _ (.inl q)⟩
  refine codeAny_call_function hr.depth (KX _ _ lk) rfl S.co S.gen rfl (PySem.W.codeRec_of KX hcd) (hb _ _ _ _ (wpAny_newFunctionEnv_cells S.kind hkind fun env he s1 y => ?_))
  subst he
  refine ⟨lim.keeps y.toInCall.keep, codeAny_func ?_⟩
  obtain ⟨t, ht, hq⟩ := hbody cdv (hr.deeper _)
  have I : Inv (cxH CX0 P w K mg base N x (defScope st) f cdv A outer s H (fun _ _ _ => False) p) [] (L2.start N vs) H s1 := inv_startH S pin e0 hl r y
  refine wpAny_mono (ht.nox.run [] s1 (L2.start N vs) H _ I hq) (fun fl s' hs => ?_) fun e s' hs => hs
  match fl, hs with
  | .ret u, ⟨v, σ', H', J, rv, q⟩ => exact ⟨v, H', J.os, J.bare, J.base, J.hok, rv, q⟩
  | .next, ⟨σ', H', J, q⟩ => exact ⟨V.non, H', J.os, J.bare, J.base, J.hok, rfl, q⟩
  | .brk, ⟨_, _, _, q⟩ => exact q.elim
  | .cont, ⟨_, _, _, q⟩ => exact q.elim
end Gf
namespace Gf
open PySem PySem.Spec PyProof.Rows L2 L2H HotX
variable {τ : Tbs}
/-! ### the law's def that tells an error's class by a word -/
/-- the addresses of the package's error classes -/
structure EA where
  mint : Addr
  number : Addr
  amount : Addr
  sum : Addr
  coin : Addr
  menu : Addr
  seen : Addr
  text : Addr
  struck : Addr
  much : Addr
  left : Addr
  base : Addr
/-- their names stand for them -/
structure Errs (mg : Str → Option Value) (a : EA) : Prop where
  g_InvalidMint : mg "InvalidMint" = some (.ref a.mint)
  g_InvalidNumber : mg "InvalidNumber" = some (.ref a.number)
  g_InvalidAmount : mg "InvalidAmount" = some (.ref a.amount)
  g_InvalidSum : mg "InvalidSum" = some (.ref a.sum)
  g_InvalidCoin : mg "InvalidCoin" = some (.ref a.coin)
  g_InvalidMenu : mg "InvalidMenu" = some (.ref a.menu)
  g_InvalidSeen : mg "InvalidSeen" = some (.ref a.seen)
  g_InvalidText : mg "InvalidText" = some (.ref a.text)
  g_NotStruck : mg "NotStruck" = some (.ref a.struck)
  g_TooMuch : mg "TooMuch" = some (.ref a.much)
  g_NothingLeft : mg "NothingLeft" = some (.ref a.left)
  g_MintError : mg "MintError" = some (.ref a.base)
def errWords : List Str := ["mint", "number", "amount", "sum", "coin", "menu", "seen", "text", "struck", "much", "left"]
/-- the class at C is the one of the word w -/
structure ErrIs (K : PySem.W.Frag) (a : EA) (C : Addr) (w : Str) : Prop where
  exc : ExcC K C
  mem : w ∈ errWords
  base : PySem.W.exmOne K (.ref C) (.ref a.base) = some true
  i_mint : PySem.W.kitOne K (.ref C) (.ref a.mint) = some (w == "mint")
  i_number : PySem.W.kitOne K (.ref C) (.ref a.number) = some (w == "number")
  i_amount : PySem.W.kitOne K (.ref C) (.ref a.amount) = some (w == "amount")
  i_sum : PySem.W.kitOne K (.ref C) (.ref a.sum) = some (w == "sum")
  i_coin : PySem.W.kitOne K (.ref C) (.ref a.coin) = some (w == "coin")
  i_menu : PySem.W.kitOne K (.ref C) (.ref a.menu) = some (w == "menu")
  i_seen : PySem.W.kitOne K (.ref C) (.ref a.seen) = some (w == "seen")
  i_text : PySem.W.kitOne K (.ref C) (.ref a.text) = some (w == "text")
  i_struck : PySem.W.kitOne K (.ref C) (.ref a.struck) = some (w == "struck")
  i_much : PySem.W.kitOne K (.ref C) (.ref a.much) = some (w == "much")
  i_left : PySem.W.kitOne K (.ref C) (.ref a.left) = some (w == "left")
  i_ValueError : PySem.W.kitOne K (.ref C) (.type "ValueError") = some true
section
variable {P : Program} {w : World} {K : PySem.W.Frag} {mg : Str → Option Value} {base : Heap}
def isB (K : PySem.W.Frag) (D : Addr) (v : V) (b : Bool) : Prop := ∃ cv, (∀ u, RelV v u → u = cv) ∧ PySem.W.kitOne K (.ref D) cv = some b
theorem isB_ref {D c : Addr} {b : Bool} (h : PySem.W.kitOne K (.ref D) (.ref c) = some b) : isB K D (.ref c) b := ⟨_, fun _ r => r, h⟩
theorem isB_ty {D : Addr} {n : String} {b : Bool} (h : PySem.W.kitOne K (.ref D) (.type n) = some b) : isB K D (.ty n) b := ⟨_, fun _ r => r, h⟩
def dIsE (K : PySem.W.Frag) (a D : Addr) : FD := fun ds Q => match ds with
  | [.raw (.ref a'), .raw v] => a' = a ∧ ∃ b, isB K D v b ∧ Q (.bl b)
  | _ => False
theorem cd_isE {X : Cx} {D : Addr} {p : Addr × Obj} (C : ExcC X.K D) (hp : p ∈ X.pn) (hz : Zc (.ref D) none p.2) (hf : ∃ vs, p.2.data = .fields vs) : CallD τ X (.builtin "isinstance") (dIsE X.K p.1 D) := by
  intro Mu pins s σ H xs us Q I r ⟨ds, Kk, mu, ra, h, q⟩
  unfold dIsE at h
  split at h
  · obtain ⟨e, b, ⟨cv, h1, h2⟩, hk⟩ := h
    subst e
    rcases ra with _ | ⟨r1, _ | ⟨r2, _ | _⟩⟩
    cases r1
    cases r2
    exact call_isH C hp hz hf pins s σ H _ us Q I r ⟨_, cv, b, rfl, h1, h2, q _ hk _ H (Same.refl H) (.bl _)⟩
  · exact h.elim
/-- the promise: called with the handled exception of class D it gives the text that wd tells of D -/
structure DErr (τ : Tbs) (P : Program) (w : World) (K : PySem.W.Frag) (mg : Str → Option Value) (base : Heap) (x : Str) (k : Nat) (wd : Addr → Str → Prop) : Prop where
  ex : ∃ (f : Addr) (fd : FuncData) (y : Str), mg x = some (.ref f) ∧ PySem.W.keepIn K (.ref f) = true ∧ Binds K fd [y] [] ∧
    ∀ (A : Around) (outer : List Env) (s : Shared) (H : Hp) (args : Args) (p : Addr × Obj) (D : Addr) (W : Str) (Q : VK), RoomH k A → Hot1 A p → PinOk outer H s p → Zc (.ref D) none p.2 → (∃ vs, p.2.data = .fields vs) → wd D W → Env0 P w K mg base A outer s H →
      BindsTo s fd args ([y].zip [Value.ref p.1]) → (∀ H', Same τ H H' → Q (.str W) H') → codeAny (model P w) A (.call (.ref f) args) (CR CX0 outer P w H s Q (fun _ _ _ => False)) s
theorem At.okErr {x y : Str} {st : Stmt} {f : Addr} {fd : FuncData} {N : List Str} {k : Nat} {wd : Addr → Str → Prop} (A : At K mg x st [y] f fd) (S : FnScope N [y] (defScope st)) (t : Addr → Addr → DTS)
    (hb : ∀ (cdv : Value) (A : Around) (outer : List Env) (s : Shared) (H : Hp) (p : Addr × Obj) (D : Addr) (W : Str), HotB (cxH CX0 P w K mg base N x (defScope st) f cdv A outer s H (fun _ _ _ => False) p).nox → CallD τ (cxH CX0 P w K mg base N x (defScope st) f cdv A outer s H (fun _ _ _ => False) p).nox (.builtin "isinstance") (dIsE K p.1 D) → wd D W →
      PDSs τ (cxH CX0 P w K mg base N x (defScope st) f cdv A outer s H (fun _ _ _ => False) p).nox H (defBody st) (t p.1 D))
    (hw : ∀ D W, wd D W → ExcC K D) (h : ∀ a D W (Q : DK), wd D W → Q (.str W) → t a D { nx := fun _ => Q .non, rt := Q } (startD N.length [.raw (.ref a)])) : DErr τ P w K mg base x (k + 1) wd := by
  refine ⟨f, fd, y, A.mg_, A.fn.kp, A.bd, fun A' outer s H args p D W Q hr hot pin hz hf hd e0 hbd q => ?_⟩
  have hpl : 1 ≤ N.length := by have := congrArg List.length S.pre; rw [List.length_take] at this; simp at this; omega
  refine run_hot (us := [Value.ref p.1]) (vs := [V.ref p.1]) A.fn S hr pin e0 hbd (.cons rfl .nil) rfl fun cdv hr' => ?_
  have hot' := hotB_cxH (CX := CX0) (P := P) (w := w) (K := K) (mg := mg) (base := base) (N := N) (qual := x) (scope := defScope st) (f := f) (cd := cdv) (E := fun _ _ _ => False) hot pin
  refine ⟨_, (hb cdv A' outer s H p D W hot' (cd_isE (hw D W hd) (List.mem_singleton.mpr rfl) hz hf) hd).pss (fun _ => False), ?_, startD N.length [.raw (.ref p.1)], _, es_start (fun _ (z : False) => z.elim) (.cons (.raw _) .nil), h p.1 D W (fun d => d = .str W) hd rfl, ?_⟩
  · unfold L2.start
    show _ = N.length
    rw [List.length_append, List.length_map, List.length_replicate, List.length_singleton]
    omega
  · refine ⟨fun δ' h' _ _ _ _ _ => Gf.D.noConfusion (show Gf.D.non = Gf.D.str W from h'), fun d h' v H' s' r => ?_, fun _ h' _ _ _ _ _ => h'.elim, fun _ h' _ _ _ _ _ => h'.elim⟩
    subst h'
    cases r
    exact q H' s'
/-- .. called in an except suite -/
theorem pe_callErr {X : Cx} {x e : Str} {k i : Nat} {wd : Addr → Str → Prop} {D : Addr} {p : Addr × Obj} {p1 p2 pos : Pos} (d : DErr τ X.prog X.w X.K X.mg X.base x k wd) (hr : RoomH k X.A) (hot : Hot1 X.A p) (hp : p ∈ X.pn) (hz : Zc (.ref D) none p.2) (hf : ∃ vs, p.2.data = .fields vs)
    (hg : Gl X x) (hN : X.N[i]? = some e) (hv : Vis X.env.scope e) (hd : (e == ("__debug__" : Str)) = false := by decide) (hcd : (e == ("__classdict__" : Str)) = false := by decide) (hdb : (x == ("__debug__" : Str)) = false := by decide)
    (he : starEach [.Name e p2] X.env = (false, eval (.Name e p2) X.env) :: starEach [] X.env := by rfl) (hpl : (backTo pos (starEach [] X.env)).any (·.1) = false := by rfl) :
    PE X (.Call (.Name x p1) [.Name e p2] [] pos) (fun σ H Q => σ[i]? = some (some (.ref p.1)) ∧ ∃ W, wd D W ∧ ∀ H', Same τ H H' → Q (.str W) H') := by
  obtain ⟨f, fd, y, hm, hk, hb, run⟩ := d.ex
  refine ⟨fun pins s σ H Q I ⟨hs, W, hw, q⟩ => ?_⟩
  refine wpAny_Call_Name_kw (ld_glob I hg hm ?_ hdb)
  have ha := pa_cons (pe_var (X := X) (pos := p2) (i := i) hN hv hd hcd) pa_nil he
  refine PySem.W.callWith_K (h₀ := X.base) I.ok.mod.kin hk (thn (ha.run pos pins s σ H (fun vs H' => vs = [V.ref p.1] ∧ H' = H) I ⟨_, hs, rfl, rfl⟩) fun us s1 ⟨vs, H1, I1, r1, e1, e2⟩ => ⟨I1.kIn, ?_⟩) he hpl
  subst e1 e2
  rw [Vals.ref1 r1]
  have b := hb s1 [.ref p.1] I1.kIn rfl
  have P1 := I1.pin p (List.mem_append_left _ hp)
  have pin : PinOk X.stack H1 s1 p := ⟨P1.1, P1.2.1, fun hm => (List.mem_cons.mp (I1.stkSub p.1 hm)).elim P1.2.2.1 P1.2.2.2.1, P1.2.2.2.2⟩
  refine wpAny_call (codeAny_mono (run X.A X.stack s1 H1 ⟨[.ref p.1], []⟩ p D W Q hr hot pin hz hf hw I1.env0 b q) fun r s' hq => ?_)
  match r, hq with
  | .ok (.ret u), hq => exact I1.after hq
end
end Gf
namespace Gf
open PySem PySem.Spec PyProof.Rows L2 L2H HotX
variable {τ : Tbs}
def T__law_error_of (K : PySem.W.Frag) (ea : EA) (a D : Addr) : DTS := (dNew 1 (nLst (dCons (dTup (dCons (dC (.str "mint")) (dCons (dCB (dIsE K a D) (dCons (dVar 0) (dCons (dC (.raw (.ref ea.mint))) dNil))) dNil))) dNil)) (oSeq (oApp 1 (dTup (dCons (dC (.str "number")) (dCons (dCB (dIsE K a D) (dCons (dVar 0) (dCons (dC (.raw (.ref ea.number))) dNil))) dNil))))
    (oSeq (oApp 1 (dTup (dCons (dC (.str "amount")) (dCons (dCB (dIsE K a D) (dCons (dVar 0) (dCons (dC (.raw (.ref ea.amount))) dNil))) dNil))))
    (oSeq (oApp 1 (dTup (dCons (dC (.str "sum")) (dCons (dCB (dIsE K a D) (dCons (dVar 0) (dCons (dC (.raw (.ref ea.sum))) dNil))) dNil))))
    (oSeq (oApp 1 (dTup (dCons (dC (.str "coin")) (dCons (dCB (dIsE K a D) (dCons (dVar 0) (dCons (dC (.raw (.ref ea.coin))) dNil))) dNil))))
    (oSeq (oApp 1 (dTup (dCons (dC (.str "menu")) (dCons (dCB (dIsE K a D) (dCons (dVar 0) (dCons (dC (.raw (.ref ea.menu))) dNil))) dNil))))
    (oSeq (oApp 1 (dTup (dCons (dC (.str "seen")) (dCons (dCB (dIsE K a D) (dCons (dVar 0) (dCons (dC (.raw (.ref ea.seen))) dNil))) dNil))))
    (oSeq (oApp 1 (dTup (dCons (dC (.str "text")) (dCons (dCB (dIsE K a D) (dCons (dVar 0) (dCons (dC (.raw (.ref ea.text))) dNil))) dNil))))
    (oSeq (oApp 1 (dTup (dCons (dC (.str "struck")) (dCons (dCB (dIsE K a D) (dCons (dVar 0) (dCons (dC (.raw (.ref ea.struck))) dNil))) dNil))))
    (oSeq (oApp 1 (dTup (dCons (dC (.str "much")) (dCons (dCB (dIsE K a D) (dCons (dVar 0) (dCons (dC (.raw (.ref ea.much))) dNil))) dNil))))
    (oSeq (oApp 1 (dTup (dCons (dC (.str "left")) (dCons (dCB (dIsE K a D) (dCons (dVar 0) (dCons (dC (.raw (.ref ea.left))) dNil))) dNil))))
    (oSeq (oApp 1 (dTup (dCons (dC (.str "no ValueError")) (dCons (dNot (dCB (dIsE K a D) (dCons (dVar 0) (dCons (dC (.raw (.ty "ValueError"))) dNil)))) dNil))))
    (oTail 1 (dRet (dJn (dC (.str "+")) (dLcB 1 (dgTupB 2 (dgCons (dName 2) (dgCons (dName 3) dgNil))) (dTest (dVar 3)) (dVar 2) [2, 3]))))))))))))))))
section
variable {K : PySem.W.Frag} {a D : Addr}
theorem e_step {w : Str} {v : V} {b : Bool} {rest : OTS} {Z : OEnds} {δ : DSt} {xs : List Gf.D} (hb : isB K D v b) (h0 : dAt δ 0 = some (.raw (.ref a))) (hl : xs.length < 20) (h : rest Z δ (xs ++ [.tup [.str w, .bl b]])) :
    oSeq (oApp 1 (dTup (dCons (dC (.str w)) (dCons (dCB (dIsE K a D) (dCons (dVar 0) (dCons (dC (.raw v)) dNil))) dNil)))) rest Z δ xs := by
  have h1 : dAt (δ.set 1 (some (.lst xs))) 0 = some (.raw (.ref a)) := by rw [dAt_set_ne (by decide)]; exact h0
  simp only [oSeq, oApp, oE, dTup, dCons, dCB, dC, dVar, dNil]
  simp only [h1]
  exact ⟨rfl, b, hb, by show 2 ≤ sizeLine; decide, rfl, Nat.lt_trans hl (by decide), h⟩
theorem lc_words {K : DK} {δ : DSt} (hl : δ.length = 4) : ∀ (ws : List (Str × Bool)) (acc : List Gf.D), acc.length + ws.length < 100 → (∀ x, x = Gf.D.lst (acc ++ (ws.filter (·.2)).map fun p => .str p.1) → K x) →
    lcW (dgTupB 2 (dgCons (dName 2) (dgCons (dName 3) dgNil))) (dTest (dVar 3)) (dVar 2) δ K (ws.map fun p => .tup [.str p.1, .bl p.2]) acc
  | [], acc, _, h => by
    rw [List.map_nil, lcW]
    exact h _ (by simp)
  | (w, b) :: ws, acc, hn, h => by
    rw [List.map_cons, lcW]
    rcases δ with _ | ⟨x0, _ | ⟨x1, _ | ⟨x2, _ | ⟨x3, _ | _⟩⟩⟩⟩ <;> try cases hl
    refine ⟨rfl, ?_⟩
    simp only [dgCons, dName, dgNil, dTest, dVar, dAt, List.set_cons_succ, List.set_cons_zero, List.getElem?_cons_succ, List.getElem?_cons_zero, Option.join]
    simp only [List.length_cons] at hn
    cases b with
    | false => exact lc_words rfl ws acc (by omega) (fun x hx => h x (by rw [hx]; simp))
    | true => exact ⟨Nat.lt_trans (show acc.length < 100 by omega) (by decide), lc_words rfl ws _ (by simp; omega) (fun x hx => h x (by rw [hx]; simp))⟩
theorem rd__law_error_of {ea : EA} (a D : Addr) (W : Str) (Q : DK) (e : ErrIs K ea D W) (q : Q (.str W)) : T__law_error_of K ea a D { nx := fun _ => Q .non, rt := Q } (startD 4 [.raw (.ref a)]) := by
  unfold T__law_error_of dNew
  refine ⟨show 1 < 4 by decide, ?_⟩
  refine ⟨rfl, _, isB_ref e.i_mint, by show 2 ≤ sizeLine; decide, by show 1 ≤ sizeLine; decide, fun a1 => ?_⟩
  refine e_step (isB_ref e.i_number) rfl (by simp) ?_
  refine e_step (isB_ref e.i_amount) rfl (by simp) ?_
  refine e_step (isB_ref e.i_sum) rfl (by simp) ?_
  refine e_step (isB_ref e.i_coin) rfl (by simp) ?_
  refine e_step (isB_ref e.i_menu) rfl (by simp) ?_
  refine e_step (isB_ref e.i_seen) rfl (by simp) ?_
  refine e_step (isB_ref e.i_text) rfl (by simp) ?_
  refine e_step (isB_ref e.i_struck) rfl (by simp) ?_
  refine e_step (isB_ref e.i_much) rfl (by simp) ?_
  refine e_step (isB_ref e.i_left) rfl (by simp) ?_
  have hn : ∀ (Z : OEnds) (δ : DSt) (xs : List Gf.D) (rest : OTS), dAt δ 0 = some (.raw (.ref a)) → xs.length < 20 → rest Z δ (xs ++ [.tup [.str "no ValueError", .bl false]]) →
      oSeq (oApp 1 (dTup (dCons (dC (.str "no ValueError")) (dCons (dNot (dCB (dIsE K a D) (dCons (dVar 0) (dCons (dC (.raw (.ty "ValueError"))) dNil)))) dNil)))) rest Z δ xs := by
    intro Z δ xs rest h0 hl h
    have h1 : dAt (δ.set 1 (some (.lst xs))) 0 = some (.raw (.ref a)) := by rw [dAt_set_ne (by decide)]; exact h0
    simp only [oSeq, oApp, oE, dTup, dCons, dCB, dC, dVar, dNil, dNot, h1]
    exact ⟨rfl, true, isB_ty e.i_ValueError, by show 2 ≤ sizeLine; decide, rfl, Nat.lt_trans hl (by decide), h⟩
  refine hn _ _ _ _ rfl (by simp) ?_
  unfold oTail dRet dJn dC
  refine lc_words (ws := [("mint", W == "mint"), ("number", W == "number"), ("amount", W == "amount"), ("sum", W == "sum"), ("coin", W == "coin"), ("menu", W == "menu"), ("seen", W == "seen"), ("text", W == "text"), ("struck", W == "struck"), ("much", W == "much"), ("left", W == "left"), ("no ValueError", false)]) (by rfl) _ (by simp) fun x hx => ?_
  subst hx
  have hm := e.mem
  unfold errWords at hm
  simp only [List.mem_cons, List.not_mem_nil, or_false] at hm
  rcases hm with h | h | h | h | h | h | h | h | h | h | h <;> subst h <;> exact ⟨by decide, q⟩
end
end Gf
namespace Gf
open PySem PySem.Spec PyProof.Rows L2 L2H HotX LamX
variable {τ : Tbs}
/-! ### lambdas whose exceptions keep that their context is None -/
/-- the wish of a lambda's body -/
abbrev lamXe (X : Cx) (A : Around) (outer : List Env) (s : Shared) (H : Hp) (E : XK) (scope : Scope) (f c' : Addr) : Value → Shared → Prop := fun e s' =>
  wpAny (model X.prog X.w) (A.deeper (lamEnv X scope s.heap.objs.size f c')) (leaving (lamEnv X scope s.heap.objs.size f c') e) (fun _ s2 => L2N.CX X.prog X.w outer H s E e s2) (fun e2 s2 => L2N.CX X.prog X.w outer H s E e2 s2) s'
abbrev lamN (X : Cx) (A : Around) (outer : List Env) (s : Shared) (H : Hp) (E : XK) (scope : Scope) (f c' : Addr) : Cx := (lamCx X A outer s H E scope f c').wish (lamXe X A outer s H E scope f c')
theorem takes_lamN {X : Cx} {A : Around} {outer : List Env} {s : Shared} {H : Hp} {E : XK} {scope : Scope} {f c' : Addr} : L2N.Takes (lamN X A outer s H E scope f c') (fun cls d _ H => E cls d H) := L2N.takes_of rfl rfl rfl rfl
section
variable {X : Cx} {pins : List (Addr × Obj)} {σ : L2.St} {H : Hp} {s : Shared}
theorem pe_actN {Z : Cx} {f c' : Addr} {pm ctv : Value} {params : Arguments} {body : Expr} {scope : Scope} {k i : Nat} {a : Str} {E : XK} {tb : TE} {p1 p2 : Pos} (I : Inv X pins σ H s) (L : LamS X.env.scope scope)
    (hf : s.heap.get? f = some (PySem.W.kla_obj "<lambda>" (X.env.qual ++ "<lambda>") params body scope (cloFrom X.env.cells scope.names []) pm c' ctv)) (hfn : H f = none) (hfr : f ∉ frs X.stack)
    (hbind : bindArgs (PySem.W.kla_fn "<lambda>" (X.env.qual ++ "<lambda>") params body scope (cloFrom X.env.cells scope.names []) pm (.ref c') ctv) ⟨[], []⟩ = pure [])
    (zp : Z.prog = X.prog) (zw : Z.w = X.w) (zk : Z.K = X.K) (zm : Z.mg = X.mg) (zb : Z.base = X.base) (z0 : Z.s_0 = s) (zh : Z.H_0 = H) (zf : Z.fs = frs X.stack) (zx : Z.ex = []) (zc : Z.calm = true) (zs : Z.stack = Z.env :: Z.outer)
    (hx : Passes (L2N.CX X.prog X.w) Z E) (hr : Room (k + 1) Z.A)
    (hbody : ∀ (A : Around) (outer : List Env) (s : Shared) (H : Hp), Room k (A.deeper (lamEnv X scope s.heap.objs.size f c')) → PE (lamN X A outer s H E scope f c') body tb)
    (hN : Z.N[i]? = some a) (hv : Vis Z.env.scope a) (hd : (a == ("__debug__" : Str)) = false := by decide) (hcd : (a == ("__classdict__" : Str)) = false := by decide) :
    PE Z (.Call (.Name a p1) [] [] p2) (fun σZ HZ Q => σZ[i]? = some (some (.ref f)) ∧ HZ c' = some (CodeO c' (X.env.qual ++ "<lambda>")) ∧ tb σ HZ Q) := by
  refine ⟨fun pinsZ sZ σZ HZ Q IZ ⟨hs, hc, ht⟩ => ?_⟩
  refine wpAny_Call_Name_kw (thn ((pe_var (pos := p1) (i := i) hN hv hd hcd).run pinsZ sZ σZ HZ (fun v H1 => v = .ref f ∧ H1 = HZ) IZ ⟨.ref f, hs, rfl, rfl⟩) fun u s1 ⟨v, H1, I1, r1, e1, e2⟩ => ?_)
  subst e1 e2
  obtain rfl : u = Value.ref f := r1
  have bs := I1.base
  rw [z0, zh, zf, zx] at bs
  have of1 := bs.keep f _ hf hfn hfr (fun z => nomatch (show f ∈ ([] : List Addr) from z))
  refine PySem.W.callWith_F0 ⟨_, _, _, _, of1⟩ ?_
  obtain ⟨⟨oc, vs, t, hoc, hdc, hvc⟩, _, _⟩ := I1.hok c' _ hc
  have e0 := I1.env0
  rw [zp, zw, zk, zm, zb] at e0
  have rc : codeAny (model X.prog X.w) Z.A (.call (.ref f) ⟨[], []⟩) (CR (L2N.CX X.prog X.w) Z.stack X.prog X.w H1 s1 Q E) s1 := by
    refine PySem.W.kla_callFunE hr.depth of1 rfl L.co L.gen rfl ⟨c', oc, vs, t, rfl, hoc, hdc, hvc⟩ ?_
    rw [hbind]
    refine wpAny_pure (wpAny_newFunctionEnv (fun y hy => (L.own y hy).2) (fun y hy => absurd hy (by simp)) (fun h₁ hns hsb => ⟨I1.nolimit.fresh _ hsb, ?_⟩) L.kind)
    have kp : ∀ b o, s1.heap.get? b = some o → h₁.get? b = some o := fun b o e => hsb.extBut b o (Nat.ne_of_lt (Heap.lt_size e)) (Heap.get?_push_of_some _ e)
    have J0 : Inv (lamCx X Z.A Z.stack s1 H1 E scope f c') [] σ H1 { s1 with heap := h₁, toks := s1.toks + ([] : List (Str × Value)).length } := lam_start2 I L e0 (I1.ok.hd zc) bs hns kp
    have J := J0.wish (lamXe X Z.A Z.stack s1 H1 E scope f c')
    refine PySem.W.kla_codeExpr (wpAny_mono ((hbody _ _ s1 H1 (hr.deeper _)).run [] _ _ H1 Q J ht) (fun v s' hq => ?_) fun e s' hq => hq)
    obtain ⟨w', H', J', rv, q⟩ := hq
    exact ⟨w', H', J'.os, J'.bare, J'.base, J'.hok, rv, q⟩
  rw [← zp, ← zw] at rc
  refine wpAny_call (codeAny_mono rc fun r s' hq => ?_)
  match r, hq with
  | .error e, hq => exact hx pinsZ σZ H1 s1 e s' I1 (by rw [zp, zw] at hq; exact hq)
  | .ok (.ret u), hq => exact I1.after hq
end
/-- the def that calls what it got, its exceptions with their context -/
def GivesN (X : Cx) (Ng : List Str) (x : Str) (sg : Scope) (g : Addr) (cdg : Value) (bg : List Stmt) (a : Str) (q : Str) (TT : (XK → Hp → VK → Prop) → Hp → VK → Prop) : Prop :=
  ∀ (f c' : Addr) (s : Shared) (H : Hp) (Q : VK) (tl : XK → Hp → VK → Prop),
    (∀ (W : WX) (pn : List (Addr × Obj)) (xe : Value → Shared → Prop) (E : XK) (p1 p2 : Pos), L2N.Takes ((cxOf C8.CX0 X.prog X.w X.K X.mg X.base Ng x sg g cdg X.A X.stack s H C8.E0).tr pn xe) W → (∀ cls d σ' H', E cls d H' → W cls d σ' H') →
      PE ((cxOf C8.CX0 X.prog X.w X.K X.mg X.base Ng x sg g cdg X.A X.stack s H C8.E0).tr pn xe) (.Call (.Name a p1) [] [] p2) (fun σZ HZ Q => σZ[0]? = some (some (.ref f)) ∧ HZ c' = some (CodeO c' q) ∧ tl E HZ Q)) →
    H c' = some (CodeO c' q) → TT tl H Q →
    ∃ t, PSs (cxOf C8.CX0 X.prog X.w X.K X.mg X.base Ng x sg g cdg X.A X.stack s H C8.E0).nox bg t ∧ t { nx := fun _ H' => Q .non H', rt := Q } (L2.start Ng [.ref f]) H
section
variable {X : Cx}
/-- x(lambda: body) -/
theorem pe_lamN {T : List (Addr × Str)} {TT : (XK → Hp → VK → Prop) → Hp → VK → Prop} {x a : Str} {g c P : Addr} {k : Nat} {st : Stmt} {fd : FuncData} {Ng : List Str} {params : Arguments} {body : Expr} {scope : Scope} {t : XK → TE} {p lpos pos : Pos}
    (hg : Gl X x) (hm : X.mg x = some (.ref g)) (F : Fun X.K x x st g fd) (hb : L2.Binds X.K fd [a] []) (Sg : FnScope Ng [a] (defScope st)) (hNg : Ng[0]? = some a) (hva : Vis (defScope st) a)
    (hG : ∀ cdv, GivesN X Ng x (defScope st) g cdv (defBody st) a (X.env.qual ++ "<lambda>") TT)
    (TB : TabB X.base X.mg c P) (hcode : X.env.code = .ref c) (hmT : (P, X.env.qual ++ "<lambda>") ∈ T) (hu : ∀ p ∈ T, p.1 = P → p.2 = X.env.qual ++ "<lambda>") (hr : Room (k + 2) X.A) (L : LamS X.env.scope scope) (hdef : defaultsOf params X.env = ([], []))
    (hbind : ∀ (q : Str) (cl : List (Str × Addr)) (pm cv ctv : Value), bindArgs (PySem.W.kla_fn "<lambda>" q params body scope cl pm cv ctv) ⟨[], []⟩ = pure [])
    (hbody : ∀ (A : Around) (outer : List Env) (s : Shared) (H : Hp) (E : XK) (f c' : Addr), Room k (A.deeper (lamEnv X scope s.heap.objs.size f c')) → PE (lamN X A outer s H E scope f c') body (t E))
    (hdb : (x == ("__debug__" : Str)) = false := by decide) (hd : (a == ("__debug__" : Str)) = false := by decide) (hcd : (a == ("__classdict__" : Str)) = false := by decide) :
    PE X (.Call (.Name x p) [.Lambda params body scope lpos] [] pos) (tLam T TT t) := by
  obtain ⟨oc, od, kV, doc, pm, an, cdv, ct, osl, e1, lk, hcg⟩ := F.ex
  subst e1
  refine ⟨fun pins s σ H Q I ⟨hT, h⟩ => ?_⟩
  refine wpAny_Call_Name_kw (ld_glob I hg hm ?_ hdb)
  refine PySem.W.callWith_K (h₀ := X.base) I.ok.mod.kin F.kp ?_ (by rfl) (by rfl)
  show wpAny _ _ (spliced ((false, eval (.Lambda params body scope lpos) X.env) :: backTo pos (starEach [] X.env))) _ _ s
  refine Calls.spliced_cons (lam_make2 I TB hcode hmT hu hT hdef (L.has I.ok) fun f c' pm' ctv H1 s' I1 eN T1 hf hfn hfr hco => Calls.spliced_nil ⟨I1.kIn, ?_⟩)
  have rc : codeAny (model X.prog X.w) X.A (.call (.ref g) ⟨[.ref f], []⟩) (CR C8.CX0 X.stack X.prog X.w H1 s' Q C8.E0) s' := by
    refine run_ofS (N := Ng) (ps := [a]) (us := [.ref f]) (vs := [.ref f]) lk hcg Sg hr I1.env0 (hb s' [.ref f] I1.kIn rfl) (.cons rfl .nil) rfl fun hr' => ?_
    obtain ⟨t', ht', hq'⟩ := hG cdv f c' s' H1 Q (fun E H' Q' => t E σ H' Q') (fun W pn xe E p1 p2 tk hW => pe_actN (i := 0) I1 L hf hfn hfr (hbind _ _ _ _ _) rfl rfl rfl rfl rfl rfl rfl rfl rfl rfl rfl (L2N.passes_call tk hW) hr' (fun A outer s H hr2 => hbody A outer s H E f c' hr2) hNg hva hd hcd) hco (h H1 eN T1)
    exact ⟨t', ht'.nox, hq'⟩
  refine wpAny_call (codeAny_mono rc fun r s2 hq => ?_)
  match r, hq with
  | .error e, hq => exact (show False from hq).elim
  | .ok (.ret u), hq => exact I1.after hq
end
end Gf
namespace Gf
open PySem PySem.Spec PyProof.Rows L2 L2H HotX LamX
variable {τ : Tbs}
/-! ### the law's def that calls what it got: [what it gives], or the word of the error's class -/
def TCame (τ : Tbs) (K : PySem.W.Frag) (ea : EA) : (XK → Hp → VK → Prop) → Hp → VK → Prop := fun tl H Q =>
  tl (fun cls d H' => ∃ C W, cls = .ref C ∧ d = none ∧ ErrIs K ea C W ∧ ∀ H2, Same τ H' H2 → Q (.str W) H2) H fun v H' => 1 ≤ sizeLine ∧ ∀ p, H' p = none → Q (.ref p) (upd H' p (.lst [v]))
theorem came_gives {X : Cx} {Ng : List Str} {x a m y e q : Str} {sg : Scope} {g : Addr} {cdg : Value} {k : Nat} {ea : EA} {p1 p2 p3 p4 p5 p6 p7 p8 p9 p10 p11 : Pos} (d : DErr τ X.prog X.w X.K X.mg X.base y k (ErrIs X.K ea)) (hr : Room (k + 1) X.A) (hm : X.mg m = some (.ref ea.base))
    (hgm : sg.names.lookup m = some .globalImplicit) (hgy : sg.names.lookup y = some .globalImplicit) (hme : (m == ("__debug__" : Str)) = false) (hye : (y == ("__debug__" : Str)) = false) (hN : Ng = [a, e]) (hnd : Ng.Nodup) (hle : sg.names.lookup e = some .local)
    (he : (e == ("__debug__" : Str)) = false) (he2 : (e == ("__classdict__" : Str)) = false) :
    GivesN X Ng x sg g cdg [.Try [.Return (some (.List [.Call (.Name a p1) [] [] p2] p3)) p4] [.ExceptHandler (some (.Name m p5)) (some e) [.Return (some (.Call (.Name y p6) [.Name e p7] [] p8)) p9] p10] [] [] p11] a q (TCame τ X.K ea) := by
  intro f c' s H Q tl act hc h
  subst hN
  refine ⟨_, pss_one (L2N.ps_try_as (X := (cxOf C8.CX0 X.prog X.w X.K X.mg X.base [a, e] x sg g cdg X.A X.stack s H C8.E0).nox) (c := .ref ea.base) (i := 1) (Wout := fun _ _ _ _ => False)
      (tb := fun W D σ H => ∃ Ech : XK, (∀ cls d σ' H', Ech cls d H' → W cls d σ' H') ∧ σ[0]? = some (some (.ref f)) ∧ H c' = some (CodeO c' q) ∧ tl Ech H fun v H' => 1 ≤ sizeLine ∧ ∀ p, H' p = none → D.rt (.ref p) (upd H' p (.lst [v])))
      (ts := fun a cls d D σ H => ∃ C W, cls = .ref C ∧ d = none ∧ ErrIs X.K ea C W ∧ (∃ σ0 : L2.St, σ = σ0.set 1 (some (.ref a))) ∧ ∀ H2, Same τ H H2 → D.rt (.str W) H2)
      rfl rfl hnd rfl hle ⟨hgm, hme, .inl hm⟩ (fun _ _ z => ?_) (fun W pn xe tk _ => ?_) (fun a1 oe cls d1 pn hz hf => ?_)), ?_⟩
  · obtain ⟨_, _, _, _, _, _, _, _, _, _, _, _, _, _, _, _, z⟩ := z
    exact z.elim
  · refine ⟨fun pins s' σ H' D I ⟨Ech, hW, h1, h2, h3⟩ => ?_⟩
    refine (pss_one (ps_ret (pos := p4) (pe_lst (pos := p3) (pa_cons (act W pn xe Ech p1 p2 tk hW) pa_nil)))).run pins s' σ H' D I ?_
    exact ⟨h1, h2, by simpa [tNil] using h3⟩
  · refine ⟨fun pins s' σ H' D I ⟨C, W, e1, e2, hE, h1, h2⟩ => ?_⟩
    subst e1 e2
    obtain ⟨vs, hv⟩ := hf
    have hr2 := roomH_of (hr.deeper (envOfC x sg s.heap.objs.size g cdg))
    obtain ⟨σ0, eσ⟩ := h1
    have hl : σ.length = 2 := I.len
    have h1 : σ[1]? = some (some (.ref a1)) := by rw [eσ] at hl ⊢; rw [List.length_set] at hl; exact List.getElem?_set_self (by omega)
    have hot : Hot1 ((cxOf C8.CX0 X.prog X.w X.K X.mg X.base [a, e] x sg g cdg X.A X.stack s H C8.E0).nox.suite a1 ((a1, oe) :: pn)).A (a1, oe) := ⟨rfl, vs, hv, hz.2.2 vs hv⟩
    have hp := pe_callErr (X := (cxOf C8.CX0 X.prog X.w X.K X.mg X.base [a, e] x sg g cdg X.A X.stack s H C8.E0).nox.suite a1 ((a1, oe) :: pn)) (i := 1) (D := C) (e := e) (p1 := p6) (p2 := p7) (pos := p8) (k := k) d ⟨hr2.dp, hr2.un⟩ hot List.mem_cons_self hz.zc ⟨vs, hv⟩ hgy rfl (.inl hle) he he2 hye
    exact (pss_one (ps_ret (pos := p9) hp)).run pins s' σ H' D I ⟨h1, W, hE, h2⟩
  · refine ⟨fun cls d H' => ∃ C W, cls = .ref C ∧ d = none ∧ ErrIs X.K ea C W ∧ ∀ H2, Same τ H' H2 → Q (.str W) H2, fun cls d σ' H' ⟨C, W, e1, e2, hE, hq⟩ => ?_, rfl, hc, h⟩
    subst e1 e2
    exact ⟨true, hE.base, fun _ a2 _ => ⟨C, W, rfl, rfl, hE, ⟨σ', rfl⟩, hq⟩, fun z => nomatch z⟩
end Gf
namespace Gf
open PySem PySem.Spec PyProof.Rows L2 L2H HotX LamX
variable {τ : Tbs}
/-! ### defs that raise -/
abbrev FX := List D → DK → (Addr → Prop) → Prop
abbrev FR := List D → (Addr → Prop) → Prop
/-- a promise over data, with the classes that may be raised -/
def spX (τ : Tbs) (n : Nat) (F : FX) : Sp := fun vs H Q E => ∃ Mu ds K EK, MuT Mu H ∧ RA Mu H vs ds ∧ ds.length = n ∧ F ds K EK ∧ (∀ d, K d → ∀ v H', Same τ H H' → R Mu H' v d → Q v H') ∧ ∀ C, EK C → ∀ H', Same τ H H' → E (.ref C) none H'
structure DX (τ : Tbs) (P : Program) (w : World) (K : PySem.W.Frag) (mg : Str → Option Value) (base : Heap) (x : Str) (k n : Nat) (F : FX) : Prop where
  ex : ∃ f fd ps, FnOk P w K mg base (L2N.CX P w) k f fd ps (spX τ n F) ∧ mg x = some (.ref f) ∧ PySem.W.keepIn K (.ref f) = true ∧ Binds K fd ps [] ∧ ∃ st, Fun K x x st f fd ∧ ps = psOf (defArgs st)
/-- .. of an address -/
structure VX (τ : Tbs) (P : Program) (w : World) (K : PySem.W.Frag) (mg : Str → Option Value) (base : Heap) (k n : Nat) (f : Addr) (F : FX) : Prop where
  ex : ∃ fd ps, FnOk P w K mg base (L2N.CX P w) k f fd ps (spX τ n F) ∧ PySem.W.keepIn K (.ref f) = true ∧ Binds K fd ps []
section
variable {P : Program} {w : World} {K : PySem.W.Frag} {mg : Str → Option Value} {base : Heap} {x : Str} {j k n : Nat} {F F' : FX} {G : FD}
theorem DX.v (d : DX τ P w K mg base x k n F) {f : Addr} (h : mg x = some (.ref f)) : VX τ P w K mg base k n f F := by
  obtain ⟨f', fd, ps, g, a, b, c, _⟩ := d.ex
  rw [h] at a
  cases a
  exact ⟨fd, ps, g, b, c⟩
theorem spX.imp (h : ∀ ds Q E, ds.length = n → F' ds Q E → F ds Q E) : ∀ vs H Q E, spX τ n F' vs H Q E → spX τ n F vs H Q E := fun vs H Q E ⟨Mu, ds, Kk, EK, a, b, c, d, e⟩ => ⟨Mu, ds, Kk, EK, a, b, c, h _ _ _ c d, e⟩
theorem DX.imp (d : DX τ P w K mg base x k n F) (h : ∀ ds Q E, ds.length = n → F' ds Q E → F ds Q E) : DX τ P w K mg base x k n F' := by
  obtain ⟨f', fd, ps, g, a⟩ := d.ex
  exact ⟨f', fd, ps, g.imp (spX.imp h), a⟩
theorem VX.imp {f : Addr} (d : VX τ P w K mg base k n f F) (h : ∀ ds Q E, ds.length = n → F' ds Q E → F ds Q E) : VX τ P w K mg base k n f F' := by
  obtain ⟨fd, ps, g, a⟩ := d.ex
  exact ⟨fd, ps, g.imp (spX.imp h), a⟩
theorem DX.mono (d : DX τ P w K mg base x j n F) (h : j ≤ k) : DX τ P w K mg base x k n F := by
  obtain ⟨f', fd, ps, g, a⟩ := d.ex
  exact ⟨f', fd, ps, g.mono h, a⟩
theorem VX.mono {f : Addr} (d : VX τ P w K mg base j n f F) (h : j ≤ k) : VX τ P w K mg base k n f F := by
  obtain ⟨fd, ps, g, a⟩ := d.ex
  exact ⟨fd, ps, g.mono h, a⟩
/-- a def that raises nothing -/
theorem DF.toX (d : DF τ P w K mg base x k n G) : DX τ P w K mg base x k n (fun ds Q _ => G ds Q) := by
  obtain ⟨f, fd, ps, g, a⟩ := d.ex
  refine ⟨f, fd, ps, ⟨fun vs H Q E ⟨Mu, ds, Kk, EK, a, b, c, d, e, _⟩ => g.len vs H Q E ⟨Mu, ds, Kk, a, b, c, d, e⟩, fun A outer s H args us vs Q E hr e0 hb r ⟨Mu, ds, Kk, EK, a, b, c, d, e, _⟩ => ?_⟩, a⟩
  refine codeAny_mono (g.run A outer s H args us vs Q E hr e0 hb r ⟨Mu, ds, Kk, a, b, c, d, e⟩) fun r s' h => ?_
  match r, h with
  | .ok (.ret u), h => exact h
/-- the same def: either promise -/
theorem DX.or (d : DX τ P w K mg base x k n F) (d' : DX τ P w K mg base x k n F') : DX τ P w K mg base x k n (fun ds Q E => F ds Q E ∨ F' ds Q E) := by
  obtain ⟨f, fd, ps, g, a, b, c, st, fn, e⟩ := d.ex
  obtain ⟨f', fd', ps', g', a', b', c', st', fn', e'⟩ := d'.ex
  rw [a] at a'
  cases a'
  obtain ⟨oc, od, kV, doc, pm, an, cdv, ct, osl, e1, lk, _⟩ := fn.ex
  obtain ⟨oc', od', kV', doc', pm', an', cdv', ct', osl', e1', lk', _⟩ := fn'.ex
  rw [lk] at lk'
  have ef : fd = fd' := by
    have z := congrArg Obj.data (Option.some.inj lk')
    exact Data.func.inj z
  subst ef
  have ep : ps = ps' := by
    rw [e, e']
    rw [e1] at e1'
    exact congrArg psOf (congrArg FuncData.params e1')
  subst ep
  refine ⟨f, fd, ps, ⟨fun vs H Q E ⟨Mu, ds, Kk, EK, a, b, c, d, e⟩ => ?_, fun A outer s H args us vs Q E hr e0 hb r ⟨Mu, ds, Kk, EK, a, b, c, d, e⟩ => ?_⟩, a, b, c, st, fn, e⟩
  · exact d.elim (fun d => g.len vs H Q E ⟨Mu, ds, Kk, EK, a, b, c, d, e⟩) fun d => g'.len vs H Q E ⟨Mu, ds, Kk, EK, a, b, c, d, e⟩
  · exact d.elim (fun d => g.run A outer s H args us vs Q E hr e0 hb r ⟨Mu, ds, Kk, EK, a, b, c, d, e⟩) fun d => g'.run A outer s H args us vs Q E hr e0 hb r ⟨Mu, ds, Kk, EK, a, b, c, d, e⟩
end
/-- what a context does with the classes that EK tells of -/
def RX (τ : Tbs) (X : Cx) (H0 : Hp) (EK : Addr → Prop) : Prop := ∃ W : WX, L2N.Takes X W ∧ ∀ C, EK C → ∀ σ H', Same τ H0 H' → W (.ref C) none σ H'
theorem RX.pass {X : Cx} {H0 : Hp} {EK : Addr → Prop} (r : RX τ X H0 EK) : Passes (L2N.CX X.prog X.w) X (fun cls d H' => ∃ C, cls = .ref C ∧ d = none ∧ EK C ∧ Same τ H0 H') := by
  obtain ⟨W, tk, h⟩ := r
  exact L2N.passes_call tk fun cls d σ H' ⟨C, e1, e2, hC, s⟩ => by subst e1 e2; exact h C hC σ H' s
/-- a class that can be raised by its name and a text -/
structure RaiseC (K : PySem.W.Frag) (C : Addr) : Prop where
  x : PySem.W.excIn K C [.type "ValueError", .type "Exception", .type "BaseException", .type "object"] "ValueError.__new__" = true
  k : PySem.W.keepIn K (.ref C) = true
  b : PySem.W.subIn K (.ref C) (.type "BaseException") = some true
  t : PySem.W.typeIn K (.ref C) = some (.type "type")
section
variable {X : Cx} {H0 : Hp} {EK : Addr → Prop} {pos : Pos} {e : Expr} {es : List Expr} {t : DA}
theorem pds_raise {x m : Str} {j : Nat} {p p2 p3 : Pos} {C : Addr} (c : RaiseC X.K C) (hm : X.mg x = some (.ref C)) (rx : RX τ X H0 EK) (hc : X.calm = true := by rfl) (hg : Gl X x := by rfl) (hdb : (x == ("__debug__" : Str)) = false := by decide) :
    PDS τ X H0 (.Raise (some (.Call (.Name x p) [.Constant (.str m) j p2] [] p3)) none pos) (fun _ _ => EK C) := by
  obtain ⟨W, tk, h⟩ := rx
  exact ⟨fun Mu => PS.imp (L2N.ps_raise hc tk (L2N.pmk_own PySem.F.excBase_ValueError c.x hm c.k (raises_own c.b c.t) hg hdb)) fun Z σ H _ ⟨hn, δ, K, e, hE, z⟩ => h C hE σ H e.sm⟩
def dCallX (n : Nat) (F : FX) (EK : Addr → Prop) (t : DA) : DE := fun δ K => t δ fun ds => ds.length = n ∧ F ds K EK
theorem LE.callX {Mu : Addr → Prop} {n : Nat} {F : FX} {σ : L2.St} {H : Hp} {Q : VK} (h : LE τ Mu H0 (dCallX n F EK t) σ H Q) : tCall (spX τ n F) [] (fun cls d H' => ∃ C, cls = .ref C ∧ d = none ∧ EK C ∧ Same τ H0 H') (LA τ Mu H0 t) σ H Q := by
  obtain ⟨δ, K, e, h, q⟩ := h
  exact ⟨δ, _, e, h, fun ds h1 vs H1 s1 r1 => ⟨Mu, ds, K, EK, e.mu.same s1, by rw [List.append_nil]; exact r1, h1.1, h1.2, fun d hd v H' s r => q d hd v H' (s1.trans s) r, fun C hC H' s => ⟨C, rfl, rfl, hC, e.sm.trans (s1.trans s)⟩⟩⟩
theorem pd_callX {x : Str} {p : Pos} {j k n : Nat} {F : FX} (d : DX τ X.prog X.w X.K X.mg X.base x j n F) (hr : Room k X.A) (rx : RX τ X H0 EK) (ha : PDA τ X H0 (e :: es) t) (hjk : j ≤ k := by decide) (hg : Gl X x := by rfl) (hdb : (x == ("__debug__" : Str)) = false := by decide)
    (he : starEach (e :: es) X.env = (false, eval e X.env) :: starEach es X.env := by rfl) (hpl : (backTo pos (starEach es X.env)).any (·.1) = false := by rfl) : PD τ X H0 (.Call (.Name x p) (e :: es) [] pos) (dCallX n F EK t) := by
  obtain ⟨f, fd, ps, G, a, b, c, _⟩ := d.ex
  exact ⟨fun Mu => PE.imp (pe_call (dvs := []) G (hr.mono hjk) hg a b c .nil rx.pass (ha.pa Mu) hdb he hpl) fun _ _ _ h => LE.callX h⟩
/-- a call of what a name of the def holds -/
def dCallV (i n : Nat) (okV : Addr → Prop) (F : FX) (EK : Addr → Prop) (t : DA) : DE := fun δ K => ∃ f, dAt δ i = some (.raw (.ref f)) ∧ okV f ∧ t δ fun ds => ds.length = n ∧ F ds K EK
theorem pd_callV (i : Nat) {x : Str} {p : Pos} {j k n : Nat} {F : FX} {okV : Addr → Prop} (hV : ∀ f, okV f → VX τ X.prog X.w X.K X.mg X.base j n f F) (hr : Room k X.A) (rx : RX τ X H0 EK) (ha : PDA τ X H0 (e :: es) t) (hjk : j ≤ k := by decide)
    (hN : X.N[i]? = some x := by rfl) (hv : Vis X.env.scope x := by first | exact Or.inl rfl | exact Or.inr (Or.inl rfl) | exact Or.inr (Or.inr rfl)) (hd : (x == ("__debug__" : Str)) = false := by decide) (hcd : (x == ("__classdict__" : Str)) = false := by decide)
    (he : starEach (e :: es) X.env = (false, eval e X.env) :: starEach es X.env := by rfl) (hpl : (backTo pos (starEach es X.env)).any (·.1) = false := by rfl) : PD τ X H0 (.Call (.Name x p) (e :: es) [] pos) (dCallV i n okV F EK t) := by
  refine ⟨fun Mu => ⟨fun pins s σ H Q I h => ?_⟩⟩
  obtain ⟨δ, K, e0, ⟨f, hf, ok, h⟩, q⟩ := h
  obtain ⟨fd, ps, G, b, c⟩ := (hV f ok).ex
  obtain ⟨v, ev, r⟩ := e0.at_ i _ (dAt_some hf)
  cases r
  refine wpAny_Call_Name_kw (thn ((pe_var (pos := p) (i := i) hN hv hd hcd).run pins s σ H (fun v H1 => v = .ref f ∧ H1 = H) I ⟨.ref f, ev, rfl, rfl⟩) fun u s1 ⟨v, H1, I1, r1, e1, e2⟩ => ?_)
  subst e1 e2
  obtain rfl : u = Value.ref f := r1
  have hq : tCall (spX τ n F) [] (fun cls d H' => ∃ C, cls = .ref C ∧ d = none ∧ EK C ∧ Same τ H0 H') (LA τ Mu H0 t) σ H1 Q := LE.callX ⟨δ, K, e0, h, q⟩
  refine PySem.W.callWith_K (h₀ := X.base) I1.ok.mod.kin b (thn ((ha.pa Mu).run pos pins s1 σ H1 _ I1 hq) fun us s2 ⟨vs, H2, I2, r, q2⟩ => ⟨I2.kIn, ?_⟩) he hpl
  exact run_fn G (hr.mono hjk) c .nil rx.pass I2 r q2
end
/-! ### a def's promise of raising -/
section
variable {P : Program} {w : World} {K : PySem.W.Frag} {mg : Str → Option Value} {base : Heap}
theorem At.okX {x : Str} {st : Stmt} {f : Addr} {fd : FuncData} {N ps : List Str} {k n : Nat} {F : FR} (A : At K mg x st ps f fd) (S : FnScope N ps (defScope st)) (hn : ps.length = n) (t : (Addr → Prop) → DTS)
    (hb : ∀ (cdv : Value) (A : Around) (outer : List Env) (s : Shared) (H : Hp) (E : XK) (EK : Addr → Prop), RX τ (cxOf (L2N.CX P w) P w K mg base N x (defScope st) f cdv A outer s H E) H EK → Room k (A.deeper (envOfC x (defScope st) s.heap.objs.size f cdv)) → PDSs τ (cxOf (L2N.CX P w) P w K mg base N x (defScope st) f cdv A outer s H E) H (defBody st) (t EK))
    (h : ∀ ds EK, ds.length = n → F ds EK → t EK { nx := fun _ => False, rt := fun _ => False } (startD N.length ds)) : DX τ P w K mg base x (k + 1) n (fun ds _ EK => F ds EK) := by
  obtain ⟨oc, od, kV, doc, pm, an, cdv, ct, osl, e1, lk, hcd⟩ := A.fn.ex
  refine ⟨f, fd, ps, ?_, A.mg_, A.fn.kp, A.bd, st, A.fn, A.ps_⟩
  have e1' := e1
  subst e1
  refine fn_of lk hcd S (fun vs H Q E hsp => ?_) fun A' outer s H vs Q E hr hsp => ?_
  · obtain ⟨Mu, ds, K', EK, mu, r, hl, _⟩ := hsp
    rw [r.length, hl, hn]
  · obtain ⟨Mu, ds, K', EK, mu, r, hl, hF, q, hE⟩ := hsp
    have hpl : ps.length ≤ N.length := by have := congrArg List.length S.pre; rw [List.length_take] at this; omega
    refine ⟨_, (hb cdv A' outer s H E EK ⟨fun cls d _ H => E cls d H, L2N.takes_of rfl rfl rfl rfl, fun C hC σ H' s => hE C hC H' s⟩ hr).pss Mu, ?_, startD N.length ds, _, es_start mu r, h ds EK hl hF, ?_⟩
    · unfold L2.start
      show _ = N.length
      rw [List.length_append, List.length_map, List.length_replicate, r.length, hl, ← hn]
      omega
    · exact ⟨fun δ' h' σ' H' _ s' _ => h'.elim, fun _ h' => h'.elim, fun _ h' _ _ _ _ _ => h'.elim, fun _ h' _ _ _ _ _ => h'.elim⟩
end
/-! ### _law_came(lambda: e) -/
def dCame (K : PySem.W.Frag) (ea : EA) (tb : (Addr → Prop) → DE) : DE := fun δ Kd => tb (fun C => ∃ W, ErrIs K ea C W ∧ Kd (.str W)) δ fun d => Kd (.lst [d])
/-- the lambda's body, read for a wish of errors -/
def tB (τ : Tbs) (tb : (Addr → Prop) → DE) (E : XK) : TE := fun σ H Q => ∃ (Mu : Addr → Prop) (δ : DSt) (K : DK) (EK : Addr → Prop), ES τ Mu H H σ δ ∧ tb EK δ K ∧ (∀ d, K d → ∀ v H', Same τ H H' → R Mu H' v d → Q v H') ∧ ∀ C, EK C → ∀ H', Same τ H H' → E (.ref C) none H'
section
variable {X : Cx} {H0 : Hp}
theorem pd_came {ea : EA} {x a : Str} {g c P : Addr} {k : Nat} {st : Stmt} {fd : FuncData} {Ng : List Str} {params : Arguments} {body : Expr} {scope : Scope} {tb : (Addr → Prop) → DE} {p lpos pos : Pos}
    (hT : Tabs τ H0) (A : At X.K X.mg x st [a] g fd) (Sg : FnScope Ng [a] (defScope st)) (hNg : Ng[0]? = some a) (hva : Vis (defScope st) a)
    (hG : ∀ cdv, GivesN X Ng x (defScope st) g cdv (defBody st) a (X.env.qual ++ "<lambda>") (TCame τ X.K ea))
    (TB : TabB X.base X.mg c P) (hcode : X.env.code = .ref c) (hmT : (P, X.env.qual ++ "<lambda>") ∈ τ) (hu : ∀ p ∈ τ, p.1 = P → p.2 = X.env.qual ++ "<lambda>") (hr : Room (k + 2) X.A) (L : LamS X.env.scope scope) (hdef : defaultsOf params X.env = ([], []))
    (hbind : ∀ (q : Str) (cl : List (Str × Addr)) (pm cv ctv : Value), bindArgs (PySem.W.kla_fn "<lambda>" q params body scope cl pm cv ctv) ⟨[], []⟩ = pure [])
    (hbody : ∀ (A : Around) (outer : List Env) (s : Shared) (H : Hp) (E : XK) (f c' : Addr) (H0 : Hp) (EK : Addr → Prop), RX τ (lamN X A outer s H E scope f c') H0 EK → Room k (A.deeper (lamEnv X scope s.heap.objs.size f c')) → PD τ (lamN X A outer s H E scope f c') H0 body (tb EK))
    (hg : Gl X x := by rfl) (hdb : (x == ("__debug__" : Str)) = false := by decide) (hd : (a == ("__debug__" : Str)) = false := by decide) (hcd : (a == ("__classdict__" : Str)) = false := by decide) :
    PD τ X H0 (.Call (.Name x p) [.Lambda params body scope lpos] [] pos) (dCame X.K ea tb) := by
  refine ⟨fun Mu => PE.imp (pe_lamN (T := τ) (TT := TCame τ X.K ea) (t := tB τ tb) (k := k) hg A.mg_ A.fn A.bd Sg hNg hva hG TB hcode hmT hu hr L hdef hbind (fun A outer s H E f c' hr' => ⟨fun pins s' σ' H' Q I ⟨Mu, δ, K, EK, es, h, q, hE⟩ => ?_⟩) hdb hd hcd) fun σ H Q ⟨δ, K, e, h, q⟩ => ?_⟩
  · exact ((hbody A outer s H E f c' H' EK ⟨_, takes_lamN, fun C hC σ H'' s => hE C hC H'' s⟩ hr').pe Mu).run pins s' σ' H' Q I ⟨δ, K, es, h, q⟩
  · refine ⟨fun p hp => e.sm.tab p hp (hT p hp), fun H1 eN T1 => ?_⟩
    have s1 : Same τ H H1 := ⟨eN, fun p hp _ => T1 p hp⟩
    have e1 := e.same s1
    refine ⟨Mu, δ, _, _, ⟨e1.mu, Same.refl _, e1.at_⟩, h, fun d hd v H' s r => ⟨by decide, fun p hp => ?_⟩, fun C hC H' s => ?_⟩
    · exact q _ hd _ _ (s1.trans (s.trans (same_new (τ := τ) hp))) (.lst upd_same ((e1.mu.same s).fresh hp) (.one (r.same (same_new (τ := τ) hp))))
    · obtain ⟨W, hE, hk⟩ := hC
      exact ⟨C, W, rfl, rfl, hE, fun H2 s2 => q _ hk _ _ (s1.trans (s.trans s2)) (.str _)⟩
end
end Gf
namespace Gf
open PySem PySem.Spec PyProof.Rows L2 L2H HotX LamX
/-! ### the law's own def, which makes lambdas -/
/-- the name of the code objects of the lambdas made in a def -/
def lamName (x : Str) (st : Stmt) (f c : Addr) : Str := (envOfC x (defScope st) 0 f (.ref c)).qual ++ "<lambda>"
theorem lamName_eq {x : Str} {st : Stmt} {f c L : Addr} : (envOfC x (defScope st) L f (.ref c)).qual ++ "<lambda>" = lamName x st f c := rfl
/-- a def that may make lambdas: its code object and that one's table -/
structure LawSt (K : PySem.W.Frag) (mg : Str → Option Value) (base : Heap) (τ : Tbs) (x : Str) (st : Stmt) where
  f : Addr
  fd : FuncData
  c : Addr
  P : Addr
  ex : ∃ (oc : Value) (od : Option Addr) (kV doc pm : Value) (an : Option Addr) (ct : Value) (osl : Array (Option Value)),
    fd = PySem.W.fnOf x x (defArgs st) (defBody st) (defScope st) .none kV doc pm an (.ref c) ct ∧ K.lookup f = some ⟨oc, od, .func fd, osl⟩
  code : PySem.W.codeIn K (.ref c) x = true
  tb : TabB base mg c P
  mem : (P, lamName x st f c) ∈ τ
  uni : ∀ p ∈ τ, p.1 = P → p.2 = lamName x st f c
/-- what the making of a lambda asks of the maker -/
def MkL (τ : Tbs) (X : Cx) (H0 : Hp) : Prop := ∃ c P, Tabs τ H0 ∧ TabB X.base X.mg c P ∧ X.env.code = .ref c ∧ (P, X.env.qual ++ "<lambda>") ∈ τ ∧ ∀ p ∈ τ, p.1 = P → p.2 = X.env.qual ++ "<lambda>"
def SpLawT (τ : Tbs) (K : PySem.W.Frag) : Sp := fun vs H Q _ => ∃ (a : Addr) (ns : List Int), vs = [.ref a] ∧ SqL K H a (ns.map V.int) ∧ Tabs τ H ∧ ns.length ≤ 63 ∧ ∀ H', Q (.bl true) H'
section
variable {τ : Tbs} {P : Program} {w : World} {K : PySem.W.Frag} {mg : Str → Option Value} {base : Heap}
theorem okLawT {st : Stmt} {N ps : List Str} {k : Nat} (A : LawSt K mg base τ "law" st) (S : FnScope N ps (defScope st)) (hn : ps.length = 1) (t : Addr → List Int → DTS)
    (hb : ∀ (A' : Around) (outer : List Env) (s : Shared) (H : Hp) (E : XK) (a : Addr) (ns : List Int), SqL K H a (ns.map V.int) → MkL τ (cxOf CX0 P w K mg base N "law" (defScope st) A.f (.ref A.c) A' outer s H E).nox H → Room k (A'.deeper (envOfC "law" (defScope st) s.heap.objs.size A.f (.ref A.c))) →
      PDSs τ (cxOf CX0 P w K mg base N "law" (defScope st) A.f (.ref A.c) A' outer s H E).nox H (defBody st) (t a ns))
    (h : ∀ a ns (Q : DK), ns.length ≤ 63 → Q (.bl true) → t a ns { nx := fun _ => Q .non, rt := Q } (startD N.length [.raw (.ref a)])) : FnOk P w K mg base CX0 (k + 1) A.f A.fd ps (SpLawT τ K) := by
  obtain ⟨oc, od, kV, doc, pm, an, ct, osl, e1, lk⟩ := A.ex
  rw [e1] at lk ⊢
  refine fn_of lk A.code S (fun vs H Q E hsp => ?_) fun A' outer s H vs Q E hr hsp => ?_
  · obtain ⟨a, ns, rfl, hS, _⟩ := hsp
    rw [hn]; rfl
  · obtain ⟨a, ns, rfl, hS, hT, hl, q⟩ := hsp
    have hpl : ps.length ≤ N.length := by have := congrArg List.length S.pre; rw [List.length_take] at this; omega
    refine ⟨_, ((hb A' outer s H E a ns hS ⟨A.c, A.P, hT, A.tb, rfl, A.mem, A.uni⟩ hr).pss (fun _ => False)).nox, ?_, startD N.length [.raw (.ref a)], _, es_start (fun _ z => z.elim) (.cons (.raw _) .nil), h a ns (fun d => d = .bl true) hl rfl, ?_⟩
    · unfold L2.start
      show _ = N.length
      rw [List.length_append, List.length_map, List.length_replicate, List.length_cons, List.length_nil]
      omega
    · exact ⟨fun δ' h' σ' H' _ s' _ => (nomatch h'), fun d hd v H' s' r => by subst hd; cases r; exact q H', fun _ h' _ _ _ _ _ => h'.elim, fun _ h' _ _ _ _ _ => h'.elim⟩
end
/-- the law's promise at the head's heap -/
theorem lawAt {l : PySem.W.OpenLaw} {w : World} {K : PySem.W.Frag} {mg : Str → Option Value} {k : Nat} {h : Heap} {st : Stmt} {f c P : Addr} {kV doc pm oc oc' ct : Value} {an od od' : Option Addr} {osl sl' : Array (Option Value)} {vs : Array Value} (KX : K.In h) {fa : Addr} (hfa : mg "law" = some (.ref fa)) (hmg : mg "law" = some (.ref f))
    (lk : K.lookup f = some ⟨oc, od, .func (PySem.W.fnOf "law" "law" (defArgs st) (defBody st) (defScope st) .none kV doc pm an (.ref c) ct), osl⟩) (hc : PySem.W.codeIn K (.ref c) "law" = true)
    (lc : K.lookup c = some ⟨oc', od', .fields vs, sl'⟩) (lp : vs[11]? = some (.ref P)) (hd : PySem.W.codeHdIn K c P = true) (hn : K.lookup P = none) (hT : h.get? P = some { cls := .none, data := .fields #[] })
    (hbt : ∀ (s : Shared) (v : Value), BindsTo s (PySem.W.fnOf "law" "law" (defArgs st) (defBody st) (defScope st) .none kV doc pm an (.ref c) ct) ⟨[v], []⟩ [("script", v)])
    (F : ∀ (τ : Tbs) (base : Heap), K.In base → base.Ns mainGlobals mg → ∀ S : LawSt K mg base τ "law" st, FnOk l.prog w K mg base CX0 k S.f S.fd ["script"] (SpLawT τ K)) : LawAtS l w K CX0 k 63 "script" mg fa h := by
  cases hfa.symm.trans hmg
  refine ⟨_, [(c, P)], SpLawT [(P, lamName "law" st f c)] K, ?_, ?_, ?_, hbt, ?_, ?_⟩
  · intro p hp
    rw [List.mem_singleton.mp hp]
    exact hT
  · intro p hp
    rw [List.mem_singleton.mp hp]
    exact hn
  · intro p hp
    rw [List.mem_singleton.mp hp]
    exact PySem.W.codeHd_of_K KX hd
  · intro H a ns hl _ hH hS
    refine ⟨a, ns, rfl, hS, fun p hp => ?_, hl, fun _ => rfl⟩
    rw [List.mem_singleton.mp hp]
    exact TabS.nil (hH (c, P) List.mem_cons_self)
  · intro base Kb G hTB
    exact F _ base Kb G ⟨f, _, c, P, ⟨_, _, _, _, _, _, _, _, rfl, lk⟩, hc, hTB (c, P) List.mem_cons_self, List.mem_cons_self, fun p hp _ => by rw [List.mem_singleton.mp hp]⟩
end Gf
namespace Gf
open PySem PySem.Spec PyProof.Rows L2 L2H HotX LamX
/-- the package's error classes, each with its word -/
structure ErrAll (K : PySem.W.Frag) (ea : EA) : Prop where
  mint : ErrIs K ea ea.mint "mint"
  number : ErrIs K ea ea.number "number"
  amount : ErrIs K ea ea.amount "amount"
  sum : ErrIs K ea ea.sum "sum"
  coin : ErrIs K ea ea.coin "coin"
  menu : ErrIs K ea ea.menu "menu"
  seen : ErrIs K ea ea.seen "seen"
  text : ErrIs K ea ea.text "text"
  struck : ErrIs K ea ea.struck "struck"
  much : ErrIs K ea ea.much "much"
  left : ErrIs K ea ea.left "left"
def kitsB (K : PySem.W.Frag) (a : EA) (C : Addr) (w : Str) : Bool :=
  PySem.W.exmOne K (.ref C) (.ref a.base) == some true && PySem.W.kitOne K (.ref C) (.ref a.mint) == some (w == "mint") && PySem.W.kitOne K (.ref C) (.ref a.number) == some (w == "number") && PySem.W.kitOne K (.ref C) (.ref a.amount) == some (w == "amount") &&
  PySem.W.kitOne K (.ref C) (.ref a.sum) == some (w == "sum") && PySem.W.kitOne K (.ref C) (.ref a.coin) == some (w == "coin") && PySem.W.kitOne K (.ref C) (.ref a.menu) == some (w == "menu") && PySem.W.kitOne K (.ref C) (.ref a.seen) == some (w == "seen") &&
  PySem.W.kitOne K (.ref C) (.ref a.text) == some (w == "text") && PySem.W.kitOne K (.ref C) (.ref a.struck) == some (w == "struck") && PySem.W.kitOne K (.ref C) (.ref a.much) == some (w == "much") && PySem.W.kitOne K (.ref C) (.ref a.left) == some (w == "left") &&
  PySem.W.kitOne K (.ref C) (.type "ValueError") == some true
theorem errIs_mk {K : PySem.W.Frag} {a : EA} {C : Addr} {w : Str} (x : ExcC K C) (m : w ∈ errWords) (k : kitsB K a C w = true) : ErrIs K a C w := by
  unfold kitsB at k
  simp only [Bool.and_eq_true, beq_iff_eq] at k
  obtain ⟨⟨⟨⟨⟨⟨⟨⟨⟨⟨⟨⟨k1, k2⟩, k3⟩, k4⟩, k5⟩, k6⟩, k7⟩, k8⟩, k9⟩, k10⟩, k11⟩, k12⟩, k13⟩ := k
  exact ⟨x, m, k1, k2, k3, k4, k5, k6, k7, k8, k9, k10, k11, k12, k13⟩
def isIntV (v : Value) (N : Int) : Bool := match v with | .int i _ => decide (i = N) | _ => false
theorem g_ex {mg : Str → Option Value} {x : Str} {N : Int} {v : Value} (h : mg x = some v) (hv : isIntV v N = true) : ∃ t, mg x = some (.int N t) := by
  unfold isIntV at hv
  split at hv
  · rename_i i t
    rw [decide_eq_true_eq] at hv
    exact ⟨t, by rw [h, hv]⟩
  · cases hv
def faOf (mg : Str → Option Value) (x : Str) : Addr := match mg x with | some (.ref f) => f | _ => 0
theorem faOf_eq {mg : Str → Option Value} {x : Str} {f : Addr} (h : mg x = some (.ref f)) : mg x = some (.ref (faOf mg x)) := by unfold faOf; rw [h]
end Gf
namespace Gf
open PySem PySem.Spec PyProof.Rows L2 L2H HotX LamX
variable {τ : Tbs}
/-! ### lambdas that are kept: made, told of as data -/
theorem obO_ok {P : Program} {w : World} {H : Hp} {h : Heap} {a : Addr} {o : Obj} (e : h.get? a = some o) : ObjOk P w H h a (ObO a o) := ⟨e, ⟨o, e⟩, fun _ _ q k => k o q⟩
theorem obO_get {P : Program} {w : World} {H : Hp} {h : Heap} {a : Addr} {o : Obj} (ok : HOk P w H h) (e : H a = some (ObO a o)) : h.get? a = some o := (ok a _ e).1
/-- the function object of a lambda -/
def IsLam (q : Str) (params : Arguments) (body : Expr) (scope : Scope) (clo : List (Str × Addr)) (ob : Obj) (c' : Addr) : Prop := ∃ pm ctv, ob = PySem.W.kla_obj "<lambda>" q params body scope clo pm c' ctv
section
variable {X : Cx} {pins : List (Addr × Obj)} {σ : L2.St} {H : Hp} {s : Shared}
theorem inv_obO {σ : L2.St} {t1 : Nat} {h1 : Heap} {ob : Obj} (I : Inv X pins σ H { s with heap := h1, toks := t1 }) (hl : ob.isFreed = false := by rfl) : Inv X pins σ (upd H h1.objs.size (ObO h1.objs.size ob)) { s with heap := h1.push ob, toks := t1 } :=
  I.laid (h' := h1.push ob) (t' := t1) (a := h1.objs.size) (fun b u e => Heap.get?_push_of_some _ e) (Nat.le_refl _) (obO_ok (Heap.get?_push_size _ hl))
theorem lam_keep {T : List (Addr × Str)} {c P : Addr} {params : Arguments} {body : Expr} {scope : Scope} {pos : Pos} {E : Value → Shared → Prop} {Q : Value → Shared → Prop} (I : Inv X pins σ H s) (TB : TabB X.base X.mg c P) (hcode : X.env.code = .ref c)
    (mem : (P, X.env.qual ++ "<lambda>") ∈ T) (uni : ∀ p ∈ T, p.1 = P → p.2 = X.env.qual ++ "<lambda>") (tabs : Tabs T H) (nodef : defaultsOf params X.env = ([], [])) (frees : ∀ y ∈ scope.names, y.2 = .free → ∃ c, X.env.cells.lookup y.1 = some c)
    (goal : ∀ (f c' : Addr) (ob : Obj) (H1 : Hp) (s' : Shared), IsLam (X.env.qual ++ "<lambda>") params body scope (cloFrom X.env.cells scope.names []) ob c' → H1 f = none → Inv X pins σ (upd H1 f (ObO f ob)) s' → ExtN H H1 → Tabs T H1 → H1 c' = some (CodeO c' (X.env.qual ++ "<lambda>")) → Q (.ref f) s') :
    wpAny (model X.prog X.w) X.A (eval (.Lambda params body scope pos) X.env) Q E s := by
  obtain ⟨ps, tP, tr, am⟩ := tabs _ mem
  have gP : s.heap.get? P = some { cls := .none, data := .fields ps } := I.hok P _ tP
  have bP : s.heap.BuiltinsAt X.mg P := TB.bm.keeps I.bk
  refine PySem.W.kla_eval nodef ?_
  cases hc : codeAmong pos ps.toList with
  | some cv =>
    obtain ⟨c', e, hco⟩ := am pos cv hc
    subst e
    refine PySem.W.kla_makeFunctionHit (P := P) (c := c) (mg := X.mg) (ps := ps) (closure_ok frees) I.ok.glob (I.mod.glob.keeps I.bk) hcode (TB.code.keeps I.bk) gP tr hc bP fun ctv h1 t1 kp sz => ?_
    have I0 : Inv X pins σ H { s with heap := h1, toks := t1 } := I.kept kp
    exact goal h1.objs.size c' _ H _ ⟨_, ctv, rfl⟩ (I0.hok.fresh (Nat.le_refl _)) (inv_obO I0) (ExtN.refl H) tabs hco
  | none =>
    refine PySem.W.kla_makeFunction (P := P) (c := c) (mg := X.mg) (ps := ps) (closure_ok frees) I.ok.glob (I.mod.glob.keeps I.bk) hcode (TB.code.keeps I.bk) gP tr hc TB.gP bP fun c' ctv h1 t1 kx ge lt rec tb => ?_
    obtain ⟨c2, oc, vs, t, e2, hoc, hd, hv⟩ := rec
    cases e2
    have nC : H c' = none := I.hok.fresh ge
    have I0 := inv_table (t' := t1) (more := #[rawInt pos.line, rawInt pos.col, .ref c']) (h' := h1) I tP (fun b o hb e => kx b o hb e) tb ge ⟨oc, vs, t, hoc, hd, hv⟩
    have xt : ExtN H (upd (upd H P (.tbl (ps ++ #[rawInt pos.line, rawInt pos.col, .ref c']))) c' (CodeO c' (X.env.qual ++ "<lambda>"))) := fun b o e n => by
      have nb : b ≠ P := fun z => n ps (Option.some.inj (e.symm.trans (by rw [z]; exact tP)))
      rw [upd_ne (ne_of_none e nC), upd_ne nb]
      exact e
    have eL : (ps ++ #[rawInt pos.line, rawInt pos.col, .ref c']).toList = ps.toList ++ [rawInt pos.line, rawInt pos.col, .ref c'] := by simp
    refine goal h1.objs.size c' _ _ _ ⟨_, ctv, rfl⟩ (I0.hok.fresh (Nat.le_refl _)) (inv_obO I0) xt (fun p hp => ?_) upd_same
    by_cases hb : p.1 = P
    · rw [uni p hp hb, hb]
      refine ⟨_, by rw [upd_ne (ne_of_none tP nC), upd_same], by rw [eL]; exact PySem.TriplesOk_snoc _ _ _ _ tr, fun p' cv hcv => ?_⟩
      rw [eL] at hcv
      rcases among_app _ tr hcv with z | z
      · obtain ⟨c0, a1, a2⟩ := am p' cv z
        exact ⟨c0, a1, xt _ _ a2 codeO_ne⟩
      · exact ⟨c', z, upd_same⟩
    · obtain ⟨qs, a1, a2, a3⟩ := tabs p hp
      refine ⟨qs, by rw [upd_ne (ne_of_none a1 nC), upd_ne hb]; exact a1, a2, fun p' cv hcv => ?_⟩
      obtain ⟨c0, b1, b2⟩ := a3 p' cv hcv
      exact ⟨c0, b1, xt _ _ b2 codeO_ne⟩
end
/-- a lambda as a value -/
def dLamF (q : Str) (params : Arguments) (body : Expr) (scope : Scope) (clo : List (Str × Addr)) : DE := fun _ K => ∀ ob c', IsLam q params body scope clo ob c' → K (.fnc ob c' q [] [] [])
theorem pd_lamF {X : Cx} {H0 : Hp} {params : Arguments} {body : Expr} {scope : Scope} {pos : Pos} (mk : MkL τ X H0) (L : LamS X.env.scope scope) (nodef : defaultsOf params X.env = ([], [])) :
    PD τ X H0 (.Lambda params body scope pos) (dLamF (X.env.qual ++ "<lambda>") params body scope (cloFrom X.env.cells scope.names [])) := by
  obtain ⟨c, P, tabs, TB, hcode, mem, uni⟩ := mk
  refine ⟨fun Mu => ⟨fun pins s σ H Q I ⟨δ, K, e, h, q⟩ => ?_⟩⟩
  refine lam_keep (T := τ) I TB hcode mem uni (fun p hp => e.sm.tab p hp (tabs p hp)) nodef (L.has I.ok) fun f c' ob H1 s' il nf I1 x1 t1 hc => ?_
  have s1 : Same τ H H1 := ⟨fun b o h n => x1 b o h n, fun p hp _ => t1 p hp⟩
  have s2 := s1.trans (same_new (τ := τ) (o := ObO f ob) nf)
  refine ⟨.ref f, _, I1, rfl, q _ (h ob c' il) _ _ s2 (.fnc upd_same ?_ (fun p hp => nomatch hp) .nil)⟩
  rw [upd_ne (ne_of_none hc nf)]
  exact hc
/-! ### a heap without some cells, and with them again -/
def less (cs : List Addr) (H : Hp) : Hp := fun b => if b ∈ cs then none else H b
def back (cs : List Addr) (H H' : Hp) : Hp := fun b => if b ∈ cs then H b else H' b
theorem less_in {cs : List Addr} {H : Hp} {b : Addr} (h : b ∈ cs) : less cs H b = none := by unfold less; rw [if_pos h]
theorem less_out {cs : List Addr} {H : Hp} {b : Addr} (h : b ∉ cs) : less cs H b = H b := by unfold less; rw [if_neg h]
theorem back_in {cs : List Addr} {H H' : Hp} {b : Addr} (h : b ∈ cs) : back cs H H' b = H b := by unfold back; rw [if_pos h]
theorem back_out {cs : List Addr} {H H' : Hp} {b : Addr} (h : b ∉ cs) : back cs H H' b = H' b := by unfold back; rw [if_neg h]
/-- the cells at cs, told of in H, stand in h -/
def Cels (cs : List Addr) (H : Hp) (h : Heap) : Prop := ∀ c ∈ cs, ∃ ob v, H c = some (ObO c ob) ∧ h.get? c = some ob ∧ ob.data = .cell v
section
variable {cs : List Addr} {H H' : Hp} {h h' B : Heap} {P : Program} {w : World}
theorem Cels.nocode (C : Cels cs H h) {c : Addr} {q : Str} (hc : c ∈ cs) : H c ≠ some (CodeO c q) := fun e => by
  obtain ⟨ob, v, e1, e2, e3⟩ := C c hc
  rw [e1] at e
  have z := HO.ext.inj (Option.some.inj e)
  have z2 := congrFun z h
  have z3 : ∃ (oc : Obj) (vs : Array Value) (t : Tok), h.get? c = some oc ∧ oc.data = .fields vs ∧ vs[1]? = some (.str q t) := by rw [← z2]; exact e2
  obtain ⟨oc, vs, t, a1, a2, _⟩ := z3
  rw [e2] at a1
  cases a1
  rw [e3] at a2
  cases a2
theorem Cels.out (C : Cels cs H h) {b : Addr} {o : HO} (e : H b = some o) (n : ∀ a ob, o ≠ ObO a ob) : b ∉ cs := fun z => by
  obtain ⟨ob, v, e1, _⟩ := C b z
  rw [e1] at e
  exact n b ob (Option.some.inj e).symm
theorem hok_less (C : Cels cs H h) (ok : HOk P w H h) : HOk P w (less cs H) h := fun a o e => by
  have na : a ∉ cs := fun z => by rw [less_in z] at e; cases e
  rw [less_out na] at e
  refine (ok a o e).stay (fun _ _ _ q => q) (fun b q => ?_) (fun b xs q => ?_)
  · rw [less_out (C.out q fun _ _ z => nomatch z)]; exact q
  · rw [less_out (C.out q fun _ _ z => nomatch z)]; exact q
theorem un_back {fs : List Addr} (C : Cels cs H h) (nf : ∀ c ∈ cs, c ∉ fs) (u : Un fs [] (less cs H) H' h h') : Un fs [] H (back cs H H') h h' where
  keep := fun b o e n hb hx => u.keep b o e (by rw [less_out fun z => by obtain ⟨_, _, e1, _⟩ := C b z; rw [e1] at n; cases n]; exact n) hb hx
  slot := fun b o e n hb hx => u.slot b o e (by rw [less_out fun z => by obtain ⟨_, _, e1, _⟩ := C b z; rw [e1] at n; cases n]; exact n) hb hx
  free := fun b o e n hx => by
    have nb : b ∉ cs := fun z => by obtain ⟨_, _, e1, _⟩ := C b z; rw [e1] at n; cases n
    rw [back_out nb]
    exact u.free b o e (by rw [less_out nb]; exact n) hx
  there := fun b o e hx => u.there b o e hx
  tups := fun b xs e => by
    by_cases nb : b ∈ cs
    · rw [back_in nb]; exact e
    · rw [back_out nb]; exact u.tups b xs (by rw [less_out nb]; exact e)
  frzs := fun b o xs e => by
    by_cases nb : b ∈ cs
    · rw [back_in nb]; exact e
    · rw [back_out nb]; exact u.frzs b o xs (by rw [less_out nb]; exact e)
  tbls := fun b ps e => by
    by_cases nb : b ∈ cs
    · rw [back_in nb]; exact ⟨#[], by rw [e]; simp⟩
    · rw [back_out nb]; exact u.tbls b ps (by rw [less_out nb]; exact e)
theorem hok_back (C : Cels cs H h) (hn : ∀ c ∈ cs, H' c = none) (ok : HOk P w H' h') (st : ∀ c ∈ cs, ∀ o, h.get? c = some o → h'.get? c = some o) : HOk P w (back cs H H') h' := fun a o e => by
  by_cases na : a ∈ cs
  · rw [back_in na] at e
    obtain ⟨ob, v, e1, e2, _⟩ := C a na
    rw [e1] at e
    cases e
    exact obO_ok (st a na _ e2)
  · rw [back_out na] at e
    have nb : ∀ b u, H' b = some u → b ∉ cs := fun b u q z => by rw [hn b z] at q; cases q
    refine (ok a o e).stay (fun _ _ _ q => q) (fun b q => ?_) (fun b xs q => ?_)
    · rw [back_out (nb b _ q)]; exact q
    · rw [back_out (nb b _ q)]; exact q
theorem ub_back {fs : List Addr} (C : Cels cs H h) (u : UB fs (less cs H) H' h B h') : UB fs H (back cs H H') h B h' := by
  have nb : ∀ b, H b = none → b ∉ cs := fun b n z => by obtain ⟨_, _, e1, _⟩ := C b z; rw [e1] at n; cases n
  refine ⟨fun b o e n hb => u.keep b o e (by rw [less_out (nb b n)]; exact n) hb, fun b o e hb => u.slot b o e hb, fun b o e n => ?_, fun b o e hb => u.there b o e hb, fun b xs e => ?_, fun b o xs e => ?_, fun b ps e => ?_⟩
  · rw [back_out (nb b n)]
    exact u.free b o e (by rw [less_out (nb b n)]; exact n)
  · by_cases z : b ∈ cs
    · rw [back_in z]; exact e
    · rw [back_out z]; exact u.tups b xs (by rw [less_out z]; exact e)
  · by_cases z : b ∈ cs
    · rw [back_in z]; exact e
    · rw [back_out z]; exact u.frzs b o xs (by rw [less_out z]; exact e)
  · by_cases z : b ∈ cs
    · rw [back_in z]; exact ⟨#[], by rw [e]; simp⟩
    · rw [back_out z]; exact u.tbls b ps (by rw [less_out z]; exact e)
theorem same_back (C : Cels cs H h) (hn : ∀ c ∈ cs, H' c = none) (s : Same τ (less cs H) H') : Same τ H (back cs H H') := by
  have app : ∀ b o, H b = some o → NT o → back cs H H' b = some o := fun b o e n => by
    by_cases z : b ∈ cs
    · rw [back_in z]; exact e
    · rw [back_out z]; exact s.app b o (by rw [less_out z]; exact e) n
  refine ⟨app, fun p hp ⟨ps, e1, e2, e3⟩ => ?_⟩
  have nP : p.1 ∉ cs := C.out e1 fun _ _ z => nomatch z
  obtain ⟨ps', a1, a2, a3⟩ := s.tab p hp ⟨ps, by rw [less_out nP]; exact e1, e2, fun pos cv hc => by
    obtain ⟨c, b1, b2⟩ := e3 pos cv hc
    exact ⟨c, b1, by rw [less_out fun z => C.nocode z b2]; exact b2⟩⟩
  refine ⟨ps', by rw [back_out nP]; exact a1, a2, fun pos cv hc => ?_⟩
  obtain ⟨c, b1, b2⟩ := a3 pos cv hc
  refine ⟨c, b1, ?_⟩
  by_cases z : c ∈ cs
  · rw [hn c z] at b2; cases b2
  · rw [back_out z]; exact b2
theorem cx_back {outer : List Env} {s s' : Shared} {E : XK} {e : Value} (C : Cels cs H s.heap) (nf : ∀ c ∈ cs, c ∉ frs outer) (x : L2N.CX P w outer (less cs H) s (fun cls d H' => (∀ c ∈ cs, H' c = none) → E cls d (back cs H H')) e s') : L2N.CX P w outer H s E e s' := by
  obtain ⟨a, B, H', cls, d, ea, fl, ok, u, na, os, ag, hE⟩ := x
  have hn : ∀ c ∈ cs, H' c = none := fun c hc => by
    obtain ⟨ob, v, _, e2, _⟩ := C c hc
    exact u.free c ob e2 (less_in hc)
  have st : ∀ c ∈ cs, ∀ o, s.heap.get? c = some o → B.get? c = some o := fun c hc o e => u.keep c o e (less_in hc) (nf c hc)
  refine ⟨a, B, back cs H H', cls, d, ea, fl, hok_back C hn ok st, ub_back C u, ?_, os, ag, hE hn⟩
  have ha : a ∉ cs := fun z => by
    obtain ⟨ob, v, _, e2, _⟩ := C a z
    have := st a z ob e2
    rw [fl.2.1] at this
    cases this
  rw [back_out ha]
  exact na
/-- flat data does not speak of cells -/
theorem R.fewer (C : Cels cs H h) {Mu Mu' : Addr → Prop} : ∀ (d : D) (v : V), flat d = true → (∀ a, ¬ Mu' a) → R Mu H v d → R Mu' (less cs H) v d := fun d v hf hm r => by
  have key : ∀ b o, H b = some o → (∀ a ob, o ≠ ObO a ob) → less cs H b = some o := fun b o e n => by rw [less_out (C.out e n)]; exact e
  have all : ∀ n : Nat, (∀ (d : D) (v : V), sizeOf d ≤ n → flat d = true → R Mu H v d → R Mu' (less cs H) v d) ∧ (∀ (ds : List D) (vs : List V), sizeOf ds ≤ n → flats ds = true → RA Mu H vs ds → RA Mu' (less cs H) vs ds) := by
    intro n
    induction n with
    | zero =>
      refine ⟨fun d v hn => ?_, fun ds vs hn => ?_⟩
      · cases d <;> simp at hn
      · cases ds <;> simp at hn
    | succ n ih =>
      refine ⟨fun d v hn hf r => ?_, fun ds vs hn hf r => ?_⟩
      · cases r with
        | non => exact .non
        | bl b => exact .bl b
        | int i => exact .int i
        | str x => exact .str x
        | tup h1 h2 => exact .tup (key _ _ h1 fun _ _ z => nomatch z) (ih.2 _ _ (by simp at hn; omega) (by rw [flat] at hf; exact hf) h2)
        | lst h1 h2 h3 => exact .lst (key _ _ h1 fun _ _ z => nomatch z) (hm _) (ih.2 _ _ (by simp at hn; omega) (by rw [flat] at hf; exact hf) h3)
        | raw v => rw [flat] at hf; cases hf
        | spr => rw [flat] at hf; cases hf
        | hob => rw [flat] at hf; cases hf
        | fnc => rw [flat] at hf; cases hf
      · cases r with
        | nil => exact .nil
        | cons h1 h2 =>
          rw [flats, Bool.and_eq_true] at hf
          simp at hn
          exact .cons (ih.1 _ _ (by omega) hf.1 h1) (ih.2 _ _ (by omega) hf.2 h2)
  exact (all (sizeOf d)).1 d v (Nat.le_refl _) hf r
theorem RA.fewer (C : Cels cs H h) {Mu Mu' : Addr → Prop} (hm : ∀ a, ¬ Mu' a) : ∀ {ds : List D} {vs : List V}, flats ds = true → RA Mu H vs ds → RA Mu' (less cs H) vs ds
  | _, _, _, .nil => .nil
  | d :: ds, _, hf, .cons h1 h2 => by
    rw [flats, Bool.and_eq_true] at hf
    exact .cons (R.fewer C d _ hf.1 hm h1) (RA.fewer C hm hf.2 h2)
end
/-! ### the context of a kept lambda's body -/
/-- no parameter, no name of its own; its free names are N, each with its cell -/
structure LamC (scope : Scope) (clo : List (Str × Addr)) : Prop where
  kind : scope.kind = .function
  co : scope.isCoroutine = false
  gen : scope.isGenerator = false
  own : ∀ y ∈ scope.names, y.2 ≠ .local ∧ y.2 ≠ .cell
  free : ∀ y ∈ scope.names, y.2 = .free → ∃ c, clo.lookup y.1 = some c
  inj : ∀ x y c, clo.lookup x = some c → clo.lookup y = some c → x = y
abbrev lamE (q : Str) (scope : Scope) (clo : List (Str × Addr)) (L f c' : Addr) : Env := PySem.W.envX q scope L f (.ref c') clo
def lamK (P : Program) (w : World) (K : PySem.W.Frag) (mg : Str → Option Value) (base : Heap) (N : List Str) (q : Str) (scope : Scope) (clo : List (Str × Addr)) (A : Around) (outer : List Env) (s : Shared) (H : Hp) (E : XK) (f c' : Addr) : Cx where
  prog := P
  w := w
  K := K
  mg := mg
  base := base
  A := A.deeper (lamE q scope clo s.heap.objs.size f c')
  N := N
  s_0 := s
  H_0 := H
  env := lamE q scope clo s.heap.objs.size f c'
  outer := outer
  stack := lamE q scope clo s.heap.objs.size f c' :: outer
  ex := []
  fn := fun _ => false
  calm := true
  pn := []
  xe := fun e s' => wpAny (model P w) (A.deeper (lamE q scope clo s.heap.objs.size f c')) (leaving (lamE q scope clo s.heap.objs.size f c') e) (fun _ s2 => L2N.CX P w outer H s E e s2) (fun e2 s2 => L2N.CX P w outer H s E e2 s2) s'
theorem takes_lamK {P : Program} {w : World} {K : PySem.W.Frag} {mg : Str → Option Value} {base : Heap} {N : List Str} {q : Str} {scope : Scope} {clo : List (Str × Addr)} {A : Around} {outer : List Env} {s : Shared} {H : Hp} {E : XK} {f c' : Addr} :
    L2N.Takes (lamK P w K mg base N q scope clo A outer s H E f c') (fun cls d _ H => E cls d H) := L2N.takes_of rfl rfl rfl rfl
section
variable {P : Program} {w : World} {K : PySem.W.Frag} {mg : Str → Option Value} {base : Heap} {N : List Str} {q : Str} {scope : Scope} {clo : List (Str × Addr)} {A : Around} {outer : List Env} {s : Shared} {H : Hp} {E : XK} {f c' : Addr}
theorem lamK_start {σ : L2.St} {h₁ : Heap} {tk : Nat} (L : LamC scope clo) (e0 : Env0 P w K mg base A outer s H) (hd : A.handled = none) (hns : h₁.Ns s.heap.objs.size fun y => ([] : List (Str × Value)).reverse.lookup y) (kp : ∀ b o, s.heap.get? b = some o → h₁.get? b = some o)
    (cells : ∀ x c, clo.lookup x = some c → H c = none ∧ ∃ v, s.heap.IsCell c v) (slots : ∀ (i : Nat) (x : Str) (v : V), N[i]? = some x → σ[i]? = some (some v) → ∃ u c, RelV v u ∧ clo.lookup x = some c ∧ s.heap.IsCell c (some u)) (hl : σ.length = N.length) :
    Inv (lamK P w K mg base N q scope clo A outer s H E f c') [] σ H { s with heap := h₁, toks := tk } := by
  have kc : ∀ {c : Addr} {v : Option Value}, s.heap.IsCell c v → h₁.IsCell c v := fun ⟨o, ho, hv⟩ => ⟨o, kp _ _ ho, hv⟩
  have noA : ∀ b : Addr, b ∉ (lamK P w K mg base N q scope clo A outer s H E f c').ex := fun b z => absurd (show b ∈ ([] : List Addr) from z) (by simp)
  refine ⟨⟨e0.mod, L.kind, rfl, rfl, Nat.le_refl _, fun y z c e1 e2 => L.inj y z c e1 e2, fun y hy => ?_, fun y c z _ => ?_, fun _ => hd, Around.frames_deeper e0.frames, .inr ⟨rfl, rfl⟩, fun b z => absurd z (noA b), e0.bs, e0.bsz, fun b _ _ => noA b, fun b z => absurd z (noA b), e0.funs, e0.frf⟩,
    rfl, e0.bare, Un.kept kp, ⟨_, hns, fun i y v e1 e2 e3 => ?_⟩, fun y c e => ?_, e0.hok.fresh (Nat.le_refl _), fun y c e => (cells y c e).1, fun p hp => absurd (show p ∈ ([] : List (Addr × Obj)) ++ [] from hp) (by simp), e0.hok.kept kp, hl⟩
  · have hy : scope.names.lookup y = some .cell ∨ scope.names.lookup y = some .free := hy
    rcases hy with hy | hy
    · exact absurd rfl (L.own _ (PySem.mem_of_lookup hy)).2
    · exact L.free _ (PySem.mem_of_lookup hy) rfl
  · have z : false = true := z
    cases z
  · have e3 : Vis scope y := e3
    obtain ⟨u, c, r, h1, h2⟩ := slots i y v e1 e2
    rcases e3 with k | k | k
    · exact absurd rfl (L.own _ (PySem.mem_of_lookup k)).1
    · exact absurd rfl (L.own _ (PySem.mem_of_lookup k)).2
    · exact ⟨u, r, .inr ⟨.inr k, c, h1, kc h2⟩⟩
  · obtain ⟨v, z⟩ := (cells y c e).2
    exact ⟨v, kc z⟩
end
/-! ### what a kept lambda does: it raises -/
/-- the lambda's names N have these cells, these values -/
def Caps (N : List Str) (clo : List (Str × Addr)) (xs : List (Addr × Obj)) (vs : List V) : Prop :=
  N.length = vs.length ∧ (∀ x c, clo.lookup x = some c → ∃ i : Nat, N[i]? = some x ∧ ∃ ob, xs[i]? = some (c, ob)) ∧ ∀ (i : Nat) (x : Str), N[i]? = some x → ∃ c ob v u, clo.lookup x = some c ∧ xs[i]? = some (c, ob) ∧ vs[i]? = some v ∧ RelV v u ∧ ob.data = .cell (some u)
/-- called, it raises an error of the class whose word is W -/
def Says (τ : Tbs) (P : Program) (w : World) (K : PySem.W.Frag) (mg : Str → Option Value) (base : Heap) (ea : EA) (k : Nat) (l : D) (W : Str) : Prop :=
  ∃ (q : Str) (params : Arguments) (body : Expr) (scope : Scope) (clo : List (Str × Addr)) (ob : Obj) (c' : Addr) (xs : List (Addr × Obj)) (vs : List V) (ds : List D) (N : List Str) (t : (Addr → Prop) → DE) (C : Addr),
    l = .fnc ob c' q xs vs ds ∧ IsLam q params body scope clo ob c' ∧ LamC scope clo ∧ (∀ pm cv ctv, bindArgs (PySem.W.kla_fn "<lambda>" q params body scope clo pm cv ctv) ⟨[], []⟩ = pure []) ∧ Caps N clo xs vs ∧ (∀ p ∈ xs, ∃ v, p.2.data = .cell v) ∧ flats ds = true ∧
    (∀ (A : Around) (outer : List Env) (s : Shared) (H : Hp) (E : XK) (f : Addr) (EK : Addr → Prop), RX τ (lamK P w K mg base N q scope clo A outer s H E f c') H EK → Room k (A.deeper (lamE q scope clo s.heap.objs.size f c')) → PD τ (lamK P w K mg base N q scope clo A outer s H E f c') H body (t EK)) ∧
    ErrIs K ea C W ∧ t (fun x => x = C) (ds.map some) (fun _ => False)
theorem nth_mem {α : Type} {l : List α} {i : Nat} {x : α} (h : l[i]? = some x) : x ∈ l := List.mem_of_getElem? h
/-- x(), x a name that holds a kept lambda -/
theorem pe_keptX {Z : Cx} {i k : Nat} {a : Str} {E : XK} {ea : EA} {p1 p2 : Pos} (zc : Z.calm = true) (zst : Z.stack = Z.env :: Z.outer) (hx : Passes (L2N.CX Z.prog Z.w) Z E) (hr : Room (k + 1) Z.A)
    (hN : Z.N[i]? = some a) (hv : Vis Z.env.scope a) (hd : (a == ("__debug__" : Str)) = false := by decide) (hcd : (a == ("__classdict__" : Str)) = false := by decide) :
    PE Z (.Call (.Name a p1) [] [] p2) (fun σZ HZ Q => ∃ f l W Mu, σZ[i]? = some (some (.ref f)) ∧ R Mu HZ (.ref f) l ∧ Says τ Z.prog Z.w Z.K Z.mg Z.base ea k l W ∧ ∀ C, ErrIs Z.K ea C W → ∀ H', Same τ HZ H' → E (.ref C) none H') := by
  refine ⟨fun pinsZ sZ σZ HZ Q IZ ⟨f, l, W, Mu, hs, hR, hS, hE⟩ => ?_⟩
  refine wpAny_Call_Name_kw (thn ((pe_var (pos := p1) (i := i) hN hv hd hcd).run pinsZ sZ σZ HZ (fun v H1 => v = .ref f ∧ H1 = HZ) IZ ⟨.ref f, hs, rfl, rfl⟩) fun u s1 ⟨v, H1, I1, r1, e1, e2⟩ => ?_)
  subst e1 e2
  obtain rfl : u = Value.ref f := r1
  obtain ⟨q, params, body, scope, clo, ob, c', xs, vs, ds, N, t, C, rfl, ⟨pm, ctv, rfl⟩, L, hbind, caps, hcel, hfl, hbody, hC, ht⟩ := hS
  cases hR with
  | fnc a1 a2 a3 a4 =>
    have of1 := obO_get I1.hok a1
    obtain ⟨⟨oc, ws, tt, hoc, hdc, hvc⟩, _, _⟩ := I1.hok c' _ a2
    have hcs : Cels (xs.map (·.1)) H1 s1.heap := fun c hc => by
      obtain ⟨p, hp, rfl⟩ := List.mem_map.mp hc
      obtain ⟨v, hv⟩ := hcel p hp
      exact ⟨p.2, v, a3 p hp, obO_get I1.hok (a3 p hp), hv⟩
    have e0 := I1.env0
    have nf : ∀ c ∈ xs.map (·.1), c ∉ frs Z.stack := fun c hc z => by
      obtain ⟨o, v, b1, _⟩ := hcs c hc
      rw [e0.frf c z] at b1
      cases b1
    have e1 : Env0 Z.prog Z.w Z.K Z.mg Z.base Z.A Z.stack s1 (less (xs.map (·.1)) H1) := ⟨e0.frames, e0.mod, fun b o e => ⟨(e0.bs b o e).1, by
        unfold less
        split
        · rfl
        · exact (e0.bs b o e).2⟩, e0.bsz, e0.funs, fun b hb => by
        unfold less
        split
        · rfl
        · exact e0.frf b hb, hok_less hcs e0.hok, e0.bare⟩
    refine PySem.W.callWith_F0 ⟨_, _, _, _, of1⟩ ?_
    have rc : codeAny (model Z.prog Z.w) Z.A (.call (.ref f) ⟨[], []⟩) (CR (L2N.CX Z.prog Z.w) Z.stack Z.prog Z.w (less (xs.map (·.1)) H1) s1 (fun _ _ => False) (fun cls d H' => (∀ c ∈ xs.map (·.1), H' c = none) → E cls d (back (xs.map (·.1)) H1 H'))) s1 := by
      refine PySem.W.kla_callFunE hr.depth of1 rfl L.co L.gen rfl ⟨c', oc, ws, tt, rfl, hoc, hdc, hvc⟩ ?_
      rw [hbind]
      refine wpAny_pure (wpAny_newFunctionEnv (fun y hy => (L.own y hy).2) (fun y hy => absurd hy (by simp)) (fun h₁ hns hsb => ⟨I1.nolimit.fresh _ hsb, ?_⟩) L.kind)
      have kp : ∀ b o, s1.heap.get? b = some o → h₁.get? b = some o := fun b o e => hsb.extBut b o (Nat.ne_of_lt (Heap.lt_size e)) (Heap.get?_push_of_some _ e)
      have J : Inv (lamK Z.prog Z.w Z.K Z.mg Z.base N q scope clo Z.A Z.stack s1 (less (xs.map (·.1)) H1) (fun cls d H' => (∀ c ∈ xs.map (·.1), H' c = none) → E cls d (back (xs.map (·.1)) H1 H')) f c') [] (vs.map some) (less (xs.map (·.1)) H1) { s1 with heap := h₁, toks := s1.toks + ([] : List (Str × Value)).length } := by
        refine lamK_start L e1 (I1.ok.hd zc) hns kp (fun x c e => ?_) (fun i x v b1 b2 => ?_) ?_
        · obtain ⟨i, b1, ob, b2⟩ := caps.2.1 x c e
          have hm : c ∈ xs.map (·.1) := List.mem_map.mpr ⟨_, nth_mem b2, rfl⟩
          refine ⟨less_in hm, ?_⟩
          obtain ⟨o, v, _, d2, d3⟩ := hcs c hm
          exact ⟨v, o, d2, d3⟩
        · obtain ⟨c, ob, v', u, d1, d2, d3, d4, d5⟩ := caps.2.2 i x b1
          rw [List.getElem?_map, d3] at b2
          cases b2
          exact ⟨u, c, d4, d1, ob, obO_get I1.hok (a3 _ (nth_mem d2)), d5⟩
        · rw [List.length_map, caps.1]
      refine PySem.W.kla_codeExpr (wpAny_mono (((hbody Z.A Z.stack s1 _ _ f (fun x => x = C) ⟨_, takes_lamK, fun D hD σ H' s' hn => by
          subst hD
          exact hE D hC _ (same_back hcs hn s')⟩ (hr.deeper _)).pe (fun _ => False)).run [] _ (vs.map some) _ (fun _ _ => False) J ⟨ds.map some, fun _ => False, ⟨fun _ z => z.elim, Same.refl _, fun i d hi => ?_⟩, ht, fun _ z => z.elim⟩) (fun v s' hq => ?_) fun e s' hq => hq)
      · rw [List.getElem?_map] at hi
        cases hi2 : ds[i]? with
        | none => rw [hi2] at hi; cases hi
        | some d' =>
          rw [hi2] at hi
          cases hi
          obtain ⟨v, b1, b2⟩ := a4.get hi2
          exact ⟨v, by rw [List.getElem?_map, b1]; rfl, R.fewer hcs d _ (flats_mem hfl (nth_mem hi2)) (fun _ z => z) b2⟩
      · obtain ⟨_, _, _, _, z⟩ := hq
        exact z.elim
    refine wpAny_call (codeAny_mono rc fun r s' hq => ?_)
    match r, hq with
    | .error e, hq => exact hx pinsZ σZ H1 s1 e s' I1 (cx_back hcs nf hq)
    | .ok (.ret u), hq => obtain ⟨_, _, _, _, _, _, _, z⟩ := hq; exact z.elim
end Gf
namespace Gf
open PySem PySem.Spec PyProof.Rows L2 L2H HotX LamX
variable {τ : Tbs}
section
variable {P : Program} {w : World} {K : PySem.W.Frag} {mg : Str → Option Value} {base : Heap}
/-- a kept lambda that raises, called in the law's try -/
def FCame (τ : Tbs) (P : Program) (w : World) (K : PySem.W.Frag) (mg : Str → Option Value) (base : Heap) (ea : EA) (k : Nat) : FD := fun ds Q => ∃ l W, ds = [l] ∧ Says τ P w K mg base ea k l W ∧ Q (.str W)
theorem okCame {ea : EA} {x a e : Str} {st : Stmt} {f : Addr} {fd : FuncData} {k : Nat} (A : At K mg x st [a] f fd) (Sg : FnScope [a, e] [a] (defScope st)) (hva : Vis (defScope st) a)
    (hG : ∀ (X : Cx) (q : Str) (cdv : Value), X.prog = P → X.w = w → X.K = K → X.mg = mg → X.base = base → Room (k + 1) X.A → GivesN X [a, e] x (defScope st) f cdv (defBody st) a q (TCame τ K ea))
    (hd : (a == ("__debug__" : Str)) = false := by decide) (hcd : (a == ("__classdict__" : Str)) = false := by decide) : DF τ P w K mg base x (k + 2) 1 (FCame τ P w K mg base ea k) := by
  obtain ⟨oc, od, kV, doc, pm, an, cdv, ct, osl, e1, lk, hcg⟩ := A.fn.ex
  refine ⟨f, fd, [a], ⟨fun vs H Q E ⟨Mu, ds, K', mu, r, hl, _⟩ => by rw [r.length, hl]; rfl, fun A' outer s H args us vs Q E hr e0 hb r hsp => ?_⟩, A.mg_, A.fn.kp, A.bd, st, A.fn, A.ps_⟩
  subst e1
  obtain ⟨Mu, ds, K', mu, rA, hl, ⟨l, W, rfl, hS, hk⟩, q⟩ := hsp
  match vs, rA with
  | [v], .cons rv .nil =>
    have hS0 := hS
    obtain ⟨qn, params, body, scope, clo, ob, c', xs, ws, dd, N, t, C, rfl, _⟩ := hS0
    cases rv with
    | fnc a1 a2 a3 a4 =>
      rename_i fl
      refine run_ofS (N := [a, e]) (ps := [a]) lk hcg Sg hr e0 hb r (by rfl) fun hr' => ?_
      have X0 : ∃ X : Cx, X.prog = P ∧ X.w = w ∧ X.K = K ∧ X.mg = mg ∧ X.base = base ∧ X.A = A' ∧ X.stack = outer := ⟨{ prog := P, w := w, K := K, mg := mg, base := base, A := A', N := [], s_0 := s, H_0 := H, env := envOfC x (defScope st) 0 f cdv, outer := outer, stack := outer, ex := [], fn := fun _ => false, calm := true, pn := [], xe := fun _ _ => False }, rfl, rfl, rfl, rfl, rfl, rfl, rfl⟩
      obtain ⟨X, x1, x2, x3, x4, x5, x6, x7⟩ := X0
      have g := hG X qn cdv x1 x2 x3 x4 x5 (by rw [x6]; exact hr.mono (by omega)) fl c' s H Q (fun E HZ Q' => R Mu HZ (.ref fl) (.fnc ob c' qn xs ws dd) ∧ ∀ C, ErrIs K ea C W → ∀ H', Same τ HZ H' → E (.ref C) none H')
      rw [x1, x2, x3, x4, x5, x6, x7] at g
      obtain ⟨t', ht', hq'⟩ := g (fun Wx pn xe E p1 p2 tk hW => PE.imp (pe_keptX (τ := τ) (i := 0) (k := k) (ea := ea) rfl rfl (L2N.passes_call tk hW) hr' rfl hva hd hcd) fun σZ HZ Q' ⟨b1, b2, b3, b4⟩ => ⟨fl, _, W, Mu, b1, b3, hS, b4⟩) a2
        ⟨.fnc a1 a2 a3 a4, fun C hC H' s' => ⟨C, W, rfl, rfl, hC, fun H2 s2 => q _ hk _ _ (s'.trans s2) (.str W)⟩⟩
      exact ⟨t', ht'.nox, hq'⟩
end
/-! ### defs that make lambdas -/
/-- the names N have their cells among cells -/
def CapC (N : List Str) (cells : List (Str × Addr)) (xs : List (Addr × Obj)) (vs : List V) : Prop :=
  N.length = vs.length ∧ xs.length = vs.length ∧ ∀ (i : Nat) (x : Str), N[i]? = some x → ∃ c ob v u, cells.lookup x = some c ∧ xs[i]? = some (c, ob) ∧ vs[i]? = some v ∧ RelV v u ∧ ob.data = .cell (some u)
/-- a lambda just made, that will say W when N's cells are told of -/
def Gd (τ : Tbs) (P : Program) (w : World) (K : PySem.W.Frag) (mg : Str → Option Value) (base : Heap) (ea : EA) (k : Nat) (N : List Str) (ds : List D) (W : Str) (cells : List (Str × Addr)) (l : D) : Prop :=
  ∃ ob c' q, l = .fnc ob c' q [] [] [] ∧ ∀ xs vs, CapC N cells xs vs → Says τ P w K mg base ea k (.fnc ob c' q xs vs ds) W
def freesB (N : List Str) (scope : Scope) : Bool := scope.names.all (fun y => !decide (y.2 = .free) || N.contains y.1) && N.all fun x => scope.names.contains (x, .free)
section
variable {P : Program} {w : World} {K : PySem.W.Frag} {mg : Str → Option Value} {base : Heap}
theorem gd_mk {ea : EA} {k : Nat} {N : List Str} {ds : List D} {W q : Str} {cells : List (Str × Addr)} {sc scope : Scope} {params : Arguments} {body : Expr} {ob : Obj} {c' : Addr} {t : (Addr → Prop) → DE} {C : Addr} (il : IsLam q params body scope (cloFrom cells scope.names []) ob c') (L : LamS sc scope) (fr : freesB N scope = true)
    (hinj : ∀ x y c, cells.lookup x = some c → cells.lookup y = some c → x = y) (hbind : ∀ pm cv ctv, bindArgs (PySem.W.kla_fn "<lambda>" q params body scope (cloFrom cells scope.names []) pm cv ctv) ⟨[], []⟩ = pure []) (hfl : flats ds = true)
    (hbody : ∀ (clo : List (Str × Addr)) (A : Around) (outer : List Env) (s : Shared) (H : Hp) (E : XK) (f c' : Addr) (EK : Addr → Prop), RX τ (lamK P w K mg base N q scope clo A outer s H E f c') H EK → Room k (A.deeper (lamE q scope clo s.heap.objs.size f c')) → PD τ (lamK P w K mg base N q scope clo A outer s H E f c') H body (t EK))
    (hC : ErrIs K ea C W) (ht : t (fun x => x = C) (ds.map some) (fun _ => False)) : Gd τ P w K mg base ea k N ds W cells (.fnc ob c' q [] [] []) := by
  unfold freesB at fr
  rw [Bool.and_eq_true, List.all_eq_true, List.all_eq_true] at fr
  obtain ⟨f1, f2⟩ := fr
  refine ⟨ob, c', q, rfl, fun xs vs ⟨c1, c2, c3⟩ => ?_⟩
  have hasC : ∀ x, x ∈ N → ∃ c, cells.lookup x = some c := fun x hx => by
    obtain ⟨i, hi⟩ := List.mem_iff_getElem?.mp hx
    obtain ⟨c, ob, v, u, d1, _⟩ := c3 i x hi
    exact ⟨c, d1⟩
  have inN : ∀ y ∈ scope.names, y.2 = .free → y.1 ∈ N := fun y hy e => by
    have := f1 y hy
    rw [e] at this
    simpa using this
  have up : ∀ x, x ∈ N → ∃ c, (cloFrom cells scope.names []).lookup x = some c := fun x hx => mem_lookup (cloFrom_has (cells := cells) (acc := []) (by simpa using f2 x hx))
  have dn : ∀ x c, (cloFrom cells scope.names []).lookup x = some c → x ∈ N ∧ cells.lookup x = some c := fun x c e => by
    rcases cloFrom_mem (PySem.mem_of_lookup e) with hm | ⟨h1, h2⟩
    · cases hm
    · have hx := inN _ h1 rfl
      obtain ⟨c0, hc0⟩ := hasC x hx
      have h2 : c = (cells.lookup x).getD 0 := h2
      rw [hc0] at h2
      exact ⟨hx, by rw [h2, hc0]; rfl⟩
  refine ⟨q, params, body, scope, _, ob, c', xs, vs, ds, N, t, C, rfl, il, ⟨L.kind, L.co, L.gen, L.own, fun y hy e => up _ (inN y hy e), fun x y c e1 e2 => hinj x y c (dn x c e1).2 (dn y c e2).2⟩, hbind, ⟨c1, fun x c e => ?_, fun i x hi => ?_⟩, fun p hp => ?_, hfl, fun A outer s H E f EK rx hr => hbody _ A outer s H E f c' EK rx hr, hC, ht⟩
  · obtain ⟨hx, hc⟩ := dn x c e
    obtain ⟨i, hi⟩ := List.mem_iff_getElem?.mp hx
    obtain ⟨c0, ob0, v, u, d1, d2, _⟩ := c3 i x hi
    rw [hc] at d1
    cases d1
    exact ⟨i, hi, ob0, d2⟩
  · obtain ⟨c0, ob0, v, u, d1, d2, d3, d4, d5⟩ := c3 i x hi
    obtain ⟨c1', hc1⟩ := up x (List.mem_of_getElem? hi)
    have := (dn x c1' hc1).2
    rw [d1] at this
    cases this
    exact ⟨c0, ob0, v, u, hc1, d2, d3, d4, d5⟩
  · obtain ⟨i, hi⟩ := List.mem_iff_getElem?.mp hp
    have hlt : i < N.length := by have := (List.getElem?_eq_some_iff.mp hi).1; omega
    obtain ⟨c0, ob0, v, u, d1, d2, d3, d4, d5⟩ := c3 i N[i] (List.getElem?_eq_getElem hlt)
    rw [hi] at d2
    cases d2
    exact ⟨_, d5⟩
end
end Gf
namespace Gf
open PySem PySem.Spec PyProof.Rows L2 L2H HotX LamX
variable {τ : Tbs}
/-! ### more is told of: some objects that stood untracked -/
def plus (xs : List (Addr × Obj)) (H : Hp) : Hp := fun b => match xs.lookup b with | some o => some (ObO b o) | none => H b
theorem plus_in {xs : List (Addr × Obj)} {H : Hp} {b : Addr} {o : Obj} (nd : (xs.map (·.1)).Nodup) (h : (b, o) ∈ xs) : plus xs H b = some (ObO b o) := by
  unfold plus
  have : xs.lookup b = some o := by
    induction xs with
    | nil => cases h
    | cons p r ih =>
      obtain ⟨b', o'⟩ := p
      rw [List.map_cons, List.nodup_cons] at nd
      rw [List.lookup_cons]
      rcases List.mem_cons.mp h with e | h2
      · cases e; simp
      · have : (b == b') = false := by
          rw [beq_eq_false_iff_ne]
          intro e
          exact nd.1 (List.mem_map.mpr ⟨_, h2, e⟩)
        rw [this]
        exact ih nd.2 h2
  rw [this]
theorem plus_out {xs : List (Addr × Obj)} {H : Hp} {b : Addr} (h : b ∉ xs.map (·.1)) : plus xs H b = H b := by
  unfold plus
  have : xs.lookup b = none := by
    induction xs with
    | nil => rfl
    | cons p r ih =>
      obtain ⟨b', o'⟩ := p
      rw [List.map_cons, List.mem_cons, not_or] at h
      rw [List.lookup_cons]
      have : (b == b') = false := by rw [beq_eq_false_iff_ne]; exact h.1
      rw [this]
      exact ih h.2
  rw [this]
section
variable {xs : List (Addr × Obj)} {H H' : Hp} {h h' : Heap} {P : Program} {w : World}
theorem plus_of {b : Addr} {o : HO} (hn : ∀ p ∈ xs, H p.1 = none) (e : H b = some o) : plus xs H b = some o := by
  rw [plus_out fun z => by
    obtain ⟨p, hp, rfl⟩ := List.mem_map.mp z
    rw [hn p hp] at e; cases e]
  exact e
theorem hok_plus (nd : (xs.map (·.1)).Nodup) (hn : ∀ p ∈ xs, H p.1 = none) (hg : ∀ p ∈ xs, h.get? p.1 = some p.2) (ok : HOk P w H h) : HOk P w (plus xs H) h := fun a o e => by
  by_cases z : a ∈ xs.map (·.1)
  · obtain ⟨p, hp, rfl⟩ := List.mem_map.mp z
    rw [plus_in nd hp] at e
    cases e
    exact obO_ok (hg p hp)
  · rw [plus_out z] at e
    exact (ok a o e).stay (fun _ _ _ q => q) (fun b q => plus_of hn q) fun b ys q => plus_of hn q
theorem same_plus (hn : ∀ p ∈ xs, H p.1 = none) : Same τ H (plus xs H) := ⟨fun b o e _ => plus_of hn e, tab_of fun b o e _ => plus_of hn e⟩
end
/-! ### a def whose body makes lambdas, one behind another, and returns them -/
structure PMk (τ : Tbs) (X : Cx) (H0 : Hp) (vs0 : List V) (j : Nat) (G : D → Prop) (st : List Stmt) (n : Nat) : Prop where
  run : ∀ (pins : List (Addr × Obj)) (s : Shared) (σ : L2.St) (H : Hp) (l : Addr) (vs : List V) (ls : List D), Inv X pins σ H s → (∀ (i : Nat) v, vs0[i]? = some v → σ[i]? = some (some v)) → σ[j]? = some (some (.ref l)) → (∀ o, H0 l = some o → ¬ NT o) → H l = some (.lst vs) → RA (fun a => a = l) H vs ls →
    Same τ H0 H → (∀ d ∈ ls, G d) → ls.length + n ≤ 1000 →
    wpAny (model X.prog X.w) X.A (execs st X.env) (fun fl s' => ∃ l' σ' H' vs' ls', fl = .ret (.ref l') ∧ Inv X pins σ' H' s' ∧ (∀ (i : Nat) v, vs0[i]? = some v → σ'[i]? = some (some v)) ∧ (∀ o, H0 l' = some o → ¬ NT o) ∧ H' l' = some (.lst vs') ∧ RA (fun a => a = l') H' vs' ls' ∧ Same τ H0 H' ∧ (∀ d ∈ ls', G d) ∧ ls'.length ≤ 1000) X.xe s
section
variable {X : Cx} {H0 : Hp} {vs0 : List V} {j n : Nat} {G : D → Prop}
theorem mk_ret {x : Str} {p pos : Pos} (hN : X.N[j]? = some x := by rfl) (hv : Vis X.env.scope x := by first | exact Or.inl rfl | exact Or.inr (Or.inl rfl) | exact Or.inr (Or.inr rfl)) (hd : (x == ("__debug__" : Str)) = false := by decide) (hcd : (x == ("__classdict__" : Str)) = false := by decide) :
    PMk τ X H0 vs0 j G [.Return (some (.Name x p)) pos] 0 := by
  refine ⟨fun pins s σ H l vs ls I h1 h2 h3 h4 h5 h6 h7 h8 => ?_⟩
  refine wpAny_execs_cons (wpAny_Return_some (thn ((pe_var (pos := p) (i := j) hN hv hd hcd).run pins s σ H (fun v H1 => v = .ref l ∧ H1 = H) I ⟨.ref l, h2, rfl, rfl⟩) fun u s1 ⟨v, H1, I1, r1, e1, e2⟩ => ?_))
  subst e1 e2
  obtain rfl : u = Value.ref l := r1
  exact ⟨l, σ, H1, vs, ls, rfl, I1, h1, h3, h4, h5, h6, h7, by omega⟩
/-- a lambda, in the words of the layer below -/
def tLamF (τ : Tbs) (q : Str) (params : Arguments) (body : Expr) (scope : Scope) (clo : List (Str × Addr)) : TE := fun _ H Q => Tabs τ H ∧ ∀ f c' ob H1, IsLam q params body scope clo ob c' → H1 f = none → ExtN H H1 → Tabs τ H1 → H1 c' = some (CodeO c' q) → Q (.ref f) (upd H1 f (ObO f ob))
theorem pe_lamF {c P : Addr} {params : Arguments} {body : Expr} {scope : Scope} {pos : Pos} (TB : TabB X.base X.mg c P) (hcode : X.env.code = .ref c) (mem : (P, X.env.qual ++ "<lambda>") ∈ τ) (uni : ∀ p ∈ τ, p.1 = P → p.2 = X.env.qual ++ "<lambda>")
    (L : LamS X.env.scope scope) (nodef : defaultsOf params X.env = ([], [])) : PE X (.Lambda params body scope pos) (tLamF τ (X.env.qual ++ "<lambda>") params body scope (cloFrom X.env.cells scope.names [])) :=
  ⟨fun pins s σ H Q I ⟨tb, h⟩ => lam_keep (T := τ) I TB hcode mem uni tb nodef (L.has I.ok) fun f c' ob H1 s' il nf I1 x1 t1 hc => ⟨.ref f, _, I1, rfl, h f c' ob H1 il nf x1 t1 hc⟩⟩
/-- what is asked of the maker's lambdas -/
structure MkE (τ : Tbs) (X : Cx) (H0 : Hp) : Prop where
  ex : ∃ c P, Tabs τ H0 ∧ TabB X.base X.mg c P ∧ X.env.code = .ref c ∧ (P, X.env.qual ++ "<lambda>") ∈ τ ∧ ∀ p ∈ τ, p.1 = P → p.2 = X.env.qual ++ "<lambda>"
theorem mk_app {x : Str} {p1 apos cpos pos lpos : Pos} {params : Arguments} {body : Expr} {scope : Scope} {rest : List Stmt} (M : MkE τ X H0) (L : LamS X.env.scope scope)
    (hg : ∀ ob c', IsLam (X.env.qual ++ "<lambda>") params body scope (cloFrom X.env.cells scope.names []) ob c' → G (.fnc ob c' (X.env.qual ++ "<lambda>") [] [] [])) (hr : PMk τ X H0 vs0 j G rest n)
    (nodef : defaultsOf params X.env = ([], []) := by rfl)
    (hN : X.N[j]? = some x := by rfl) (hv : Vis X.env.scope x := by first | exact Or.inl rfl | exact Or.inr (Or.inl rfl) | exact Or.inr (Or.inr rfl)) (hd : (x == ("__debug__" : Str)) = false := by decide)
    (hcd : (x == ("__classdict__" : Str)) = false := by decide) (hbase : attributeBase (.Name x p1) "append" X.env (eval (.Name x p1) X.env) = eval (.Name x p1) X.env := by rfl)
    (hfew : ((backTo cpos (starEach [.Lambda params body scope lpos] X.env)).all (fun x => !x.1) && (backToKw cpos (keywordEach [] X.env)).all (fun x => x.1.isSome)
      && decide (([.Lambda params body scope lpos] : List Expr).length + ([] : List Keyword).length + (if ([] : List Keyword).isEmpty then 0 else 1) < 30)) = true := by rfl)
    (hline : (apos.endLine == cpos.line) = true := by rfl) (hs : starEach [.Lambda params body scope lpos] X.env = (false, eval (.Lambda params body scope lpos) X.env) :: starEach [] X.env := by rfl) (hplain : (backTo cpos (starEach [] X.env)).any (·.1) = false := by rfl)
    (hsw : swapsWith (.Call (.Attribute (.Name x p1) "append" apos) [.Lambda params body scope lpos] [] cpos) none pos.line X.env = pure false := by rfl) :
    PMk τ X H0 vs0 j G (.Expr (.Call (.Attribute (.Name x p1) "append" apos) [.Lambda params body scope lpos] [] cpos) pos :: rest) (n + 1) := by
  obtain ⟨c, P, tb, TB, hcode, mem, uni⟩ := M.ex
  refine ⟨fun pins s σ H l vs ls I h1 h2 h3 h4 h5 h6 h7 h8 => ?_⟩
  have hlen := h5.length
  have hz := small_size (n := 1000) (by decide)
  have st := ps_expr (pe_bm PySem.F.plainAttrs_list PySem.F.slot_list_append PySem.F.type_list_append mt_append (pe_var (pos := p1) (i := j) hN hv hd hcd) (pa_cons (pe_lamF (τ := τ) (pos := lpos) TB hcode mem uni L nodef) pa_nil hs) hbase hfew hline hs hplain) hsw
  refine wpAny_execs_cons (thn (st.run pins s σ H { nx := fun σ' H' => σ' = σ ∧ ∃ f ob c' H1, IsLam (X.env.qual ++ "<lambda>") params body scope (cloFrom X.env.cells scope.names []) ob c' ∧ H1 f = none ∧ ExtN H H1 ∧ Tabs τ H1 ∧ H1 c' = some (CodeO c' (X.env.qual ++ "<lambda>")) ∧ H' = upd (upd H1 f (ObO f ob)) l (.lst (vs ++ [.ref f])), rt := fun _ _ => False, bk := fun _ _ => False, ct := fun _ _ => False } I ?_) fun fl s1 hq => ?_)
  · refine ⟨.ref l, h2, .inl ⟨rfl, vs, .of h4⟩, fun p hp => h6.tab p hp (tb p hp), fun f c' ob H1 il nf x1 t1 hc => ?_⟩
    have e4 : upd H1 f (ObO f ob) l = some (.lst vs) := by
      have := x1 l _ h4 fun _ z => nomatch z
      rw [upd_ne (ne_of_none this nf)]
      exact this
    exact ⟨l, vs, .ref f, rfl, rfl, e4, by omega, rfl, f, ob, c', H1, il, nf, x1, t1, hc, rfl⟩
  · cases fl with
    | next =>
      obtain ⟨σ', H', I', e1, f, ob, c', H1, il, nf, x1, t1, hc, e2⟩ := hq
      subst e1 e2
      have l1 : H1 l = some (.lst vs) := x1 l _ h4 fun _ z => nomatch z
      have lf : l ≠ f := ne_of_none l1 nf
      have e4 : upd H1 f (ObO f ob) l = some (.lst vs) := by rw [upd_ne lf]; exact l1
      have s1 : Same τ H H1 := ⟨fun b o h n => x1 b o h n, fun p hp _ => t1 p hp⟩
      have s2 : Same τ H (upd H1 f (ObO f ob)) := s1.trans (same_new (τ := τ) nf)
      have sm : SameM τ (fun a => a = l) (upd H1 f (ObO f ob)) (upd (upd H1 f (ObO f ob)) l (.lst (vs ++ [.ref f]))) := ⟨fun a o e m nt => by
        have : a ≠ l := fun z => by
          rw [z, e4] at e
          cases e
          exact m ⟨_, rfl⟩ z
        rw [upd_ne this]
        exact e, tab_own e4⟩
      have nfl : upd (upd H1 f (ObO f ob)) l (.lst (vs ++ [.ref f])) f = some (ObO f ob) := by rw [upd_ne (Ne.symm lf), upd_same]
      have cl : c' ≠ l := fun z => by rw [z, l1] at hc; cases hc
      have ncl : upd (upd H1 f (ObO f ob)) l (.lst (vs ++ [.ref f])) c' = some (CodeO c' (X.env.qual ++ "<lambda>")) := by
        rw [upd_ne cl, upd_ne (ne_of_none hc nf)]
        exact hc
      refine hr.run pins _ σ' _ l (vs ++ [.ref f]) (ls ++ [.fnc ob c' (X.env.qual ++ "<lambda>") [] [] []]) I' h1 h2 h3 upd_same (((h5.same s2).sameM sm).app (.one (R.fnc (xs := []) (vs := []) (ds := []) nfl ncl (fun p hp => nomatch hp) .nil))) ?_ (fun d hd => ?_) (by rw [List.length_append, List.length_singleton]; omega)
      · have s3 := h6.trans s2
        refine ⟨fun b o e nt => ?_, fun p hp z => ?_⟩
        · rw [upd_ne (show b ≠ l from fun z => h3 o (by rw [← z]; exact e) nt)]
          exact s3.app b o e nt
        · exact sm.tab p hp (s3.tab p hp z)
      · rcases List.mem_append.mp hd with hd | hd
        · exact h7 d hd
        · rw [List.mem_singleton.mp hd]
          exact hg ob c' il
    | ret v => obtain ⟨_, _, _, _, _, z⟩ := hq; exact z.elim
    | brk => obtain ⟨_, _, _, z⟩ := hq; exact z.elim
    | cont => obtain ⟨_, _, _, z⟩ := hq; exact z.elim
/-- found = [lambda: ..], then the rest -/
theorem mk_new {x : Str} {pos pos' pos2 lpos : Pos} {params : Arguments} {body : Expr} {scope : Scope} {rest : List Stmt} (M : MkE τ X H0) (L : LamS X.env.scope scope)
    (hg : ∀ ob c', IsLam (X.env.qual ++ "<lambda>") params body scope (cloFrom X.env.cells scope.names []) ob c' → G (.fnc ob c' (X.env.qual ++ "<lambda>") [] [] [])) (hr : PMk τ X H0 vs0 j G rest n) (hnl : n + 1 ≤ 1000) (hj : vs0.length ≤ j)
    (nodef : defaultsOf params X.env = ([], []) := by rfl)
    (hnd : X.N.Nodup) (hN : X.N[j]? = some x := by rfl) (hx : Loc X.env.scope x := by first | exact Or.inl rfl | exact Or.inr rfl) (hsw : swapsWith (.List [.Lambda params body scope lpos] pos2) (some (.Name x pos')) pos.line X.env = pure false := by rfl)
    (hf : X.fn x = true ∨ X.env.scope.names.lookup x = some .local := by first | exact .inl rfl | exact .inr rfl | assumption) (hs : starEach [.Lambda params body scope lpos] X.env = (false, eval (.Lambda params body scope lpos) X.env) :: starEach [] X.env := by rfl)
    {pins : List (Addr × Obj)} {s : Shared} {σ : L2.St} {H : Hp} (I : Inv X pins σ H s) (h1 : ∀ (i : Nat) v, vs0[i]? = some v → σ[i]? = some (some v)) (h6 : Same τ H0 H) :
    wpAny (model X.prog X.w) X.A (execs (.Assign [.Name x pos'] (.List [.Lambda params body scope lpos] pos2) pos :: rest) X.env) (fun fl s' => ∃ l' σ' H' vs' ls', fl = .ret (.ref l') ∧ Inv X pins σ' H' s' ∧ (∀ (i : Nat) v, vs0[i]? = some v → σ'[i]? = some (some v)) ∧ (∀ o, H0 l' = some o → ¬ NT o) ∧ H' l' = some (.lst vs') ∧ RA (fun a => a = l') H' vs' ls' ∧ Same τ H0 H' ∧ (∀ d ∈ ls', G d) ∧ ls'.length ≤ 1000) X.xe s := by
  obtain ⟨c, P, tb, TB, hcode, mem, uni⟩ := M.ex
  have hz := small_size (n := 1000) (by decide)
  have st := ps_set (pos := pos) (pos' := pos') hnd hN hx (pe_lst (pos := pos2) (pa_cons (pe_lamF (τ := τ) (pos := lpos) TB hcode mem uni L nodef) pa_nil hs)) hsw hf
  refine wpAny_execs_cons (thn (st.run pins s σ H { nx := fun σ' H' => ∃ f ob c' H1 l, σ' = σ.set j (some (.ref l)) ∧ IsLam (X.env.qual ++ "<lambda>") params body scope (cloFrom X.env.cells scope.names []) ob c' ∧ H1 f = none ∧ ExtN H H1 ∧ Tabs τ H1 ∧ H1 c' = some (CodeO c' (X.env.qual ++ "<lambda>")) ∧ upd H1 f (ObO f ob) l = none ∧ H' = upd (upd H1 f (ObO f ob)) l (.lst [.ref f]), rt := fun _ _ => False, bk := fun _ _ => False, ct := fun _ _ => False } I ?_) fun fl s1 hq => ?_)
  · refine ⟨fun p hp => h6.tab p hp (tb p hp), fun f c' ob H1 il nf x1 t1 hc => ?_⟩
    refine ⟨by show 1 ≤ sizeLine; omega, fun l hl => ⟨f, ob, c', H1, l, rfl, il, nf, x1, t1, hc, hl, rfl⟩⟩
  · cases fl with
    | next =>
      obtain ⟨σ', H', I', f, ob, c', H1, l, e1, il, nf, x1, t1, hc, hl, e2⟩ := hq
      subst e1 e2
      have s1 : Same τ H H1 := ⟨fun b o h n => x1 b o h n, fun p hp _ => t1 p hp⟩
      have s2 : Same τ H (upd H1 f (ObO f ob)) := s1.trans (same_new (τ := τ) nf)
      have s3 := s2.trans (same_new (τ := τ) (o := .lst [.ref f]) hl)
      have lf : f ≠ l := fun z => by rw [← z, upd_same] at hl; cases hl
      have nfl : upd (upd H1 f (ObO f ob)) l (.lst [.ref f]) f = some (ObO f ob) := by rw [upd_ne lf, upd_same]
      have hc2 : upd H1 f (ObO f ob) c' = some (CodeO c' (X.env.qual ++ "<lambda>")) := by rw [upd_ne (ne_of_none hc nf)]; exact hc
      have ncl : upd (upd H1 f (ObO f ob)) l (.lst [.ref f]) c' = some (CodeO c' (X.env.qual ++ "<lambda>")) := by rw [upd_ne (ne_of_none hc2 hl)]; exact hc2
      have l0 : ∀ o, H0 l = some o → ¬ NT o := fun o hh nt => by
        have := (h6.trans s2).app l o hh nt
        rw [hl] at this
        cases this
      have hσl : j < σ.length := by rw [I.len]; exact (List.getElem?_eq_some_iff.mp hN).1
      refine hr.run pins _ _ _ l [.ref f] [.fnc ob c' (X.env.qual ++ "<lambda>") [] [] []] I' (fun i v hi => ?_) (List.getElem?_set_self hσl) l0 upd_same (.one (R.fnc (xs := []) (vs := []) (ds := []) nfl ncl (fun p hp => nomatch hp) .nil)) (h6.trans s3) (fun d hd => ?_) (by show 1 + n ≤ 1000; omega)
      · have : i < j := by have := (List.getElem?_eq_some_iff.mp hi).1; omega
        rw [List.getElem?_set_ne (by omega)]
        exact h1 i v hi
      · rw [List.mem_singleton.mp hd]
        exact hg ob c' il
    | ret v => obtain ⟨_, _, _, _, _, z⟩ := hq; exact z.elim
    | brk => obtain ⟨_, _, _, z⟩ := hq; exact z.elim
    | cont => obtain ⟨_, _, _, z⟩ := hq; exact z.elim
end
/-! ### the maker's promise -/
structure DM (τ : Tbs) (P : Program) (w : World) (K : PySem.W.Frag) (mg : Str → Option Value) (base : Heap) (x : Str) (k n : Nat) (F : FD) : Prop where
  ex : ∃ f fd ps, FnOk P w K mg base CX0 k f fd ps (fun vs H Q E => Tabs τ H ∧ spD τ n F vs H Q E) ∧ mg x = some (.ref f) ∧ PySem.W.keepIn K (.ref f) = true ∧ Binds K fd ps []
def FMk (τ : Tbs) (P : Program) (w : World) (K : PySem.W.Frag) (mg : Str → Option Value) (base : Heap) (ea : EA) (k : Nat) (cond : List D → Prop) (W : Str) : FD := fun ds Q => cond ds ∧ flats ds = true ∧ ∀ ls, ls.length ≤ 1000 → (∀ l ∈ ls, Says τ P w K mg base ea k l W) → Q (.lst ls)
theorem caps_ex {h : Heap} {cells : List (Str × Addr)} : ∀ {ps : List Str} {vs : List V}, ps.length = vs.length → ps.Nodup → (∀ x y c, cells.lookup x = some c → cells.lookup y = some c → x = y) →
    (∀ (i : Nat) (x : Str), ps[i]? = some x → ∃ v u c ob, vs[i]? = some v ∧ RelV v u ∧ cells.lookup x = some c ∧ h.get? c = some ob ∧ ob.data = .cell (some u)) → ∃ xs, CapC ps cells xs vs ∧ (xs.map (·.1)).Nodup ∧ ∀ p ∈ xs, h.get? p.1 = some p.2 ∧ ∃ x ∈ ps, cells.lookup x = some p.1
  | [], [], _, _, _, _ => ⟨[], ⟨rfl, rfl, fun i x hi => by simp at hi⟩, List.nodup_nil, fun p hp => nomatch hp⟩
  | [], _ :: _, hl, _, _, _ => by simp at hl
  | _ :: _, [], hl, _, _, _ => by simp at hl
  | y :: ps, v0 :: vs, hl, nd, hinj, H => by
    rw [List.nodup_cons] at nd
    obtain ⟨xs, ⟨c1, c2, c3⟩, c4, c5⟩ := caps_ex (h := h) (cells := cells) (ps := ps) (vs := vs) (by simpa using hl) nd.2 hinj fun i x hi => by
      obtain ⟨v, u, c, ob, a1, a2⟩ := H (i + 1) x (by simpa using hi)
      exact ⟨v, u, c, ob, by simpa using a1, a2⟩
    obtain ⟨v, u, c, ob, a1, a2, a3, a4, a5⟩ := H 0 y rfl
    cases a1
    refine ⟨(c, ob) :: xs, ⟨hl, by simp [c2], fun i x hi => ?_⟩, ?_, fun p hp => ?_⟩
    · match i, hi with
      | 0, hi => cases hi; exact ⟨c, ob, v0, u, a3, rfl, rfl, a2, a5⟩
      | i + 1, hi => exact c3 i x (by simpa using hi)
    · rw [List.map_cons, List.nodup_cons]
      refine ⟨fun hm => ?_, c4⟩
      obtain ⟨p, hp, e⟩ := List.mem_map.mp hm
      obtain ⟨_, x, hx, e2⟩ := c5 p hp
      have e : p.1 = c := e
      rw [e] at e2
      have := hinj _ _ _ a3 e2
      exact nd.1 (by rw [this]; exact hx)
    · rcases List.mem_cons.mp hp with e | hp
      · rw [e]; exact ⟨a4, y, List.mem_cons_self, a3⟩
      · obtain ⟨b1, x, b2, b3⟩ := c5 p hp
        exact ⟨b1, x, List.mem_cons_of_mem _ b2, b3⟩
def upg (xs : List (Addr × Obj)) (vs : List V) (ds : List D) : D → D
  | .fnc ob c' q _ _ _ => .fnc ob c' q xs vs ds
  | d => d
section
variable {P : Program} {w : World} {K : PySem.W.Frag} {mg : Str → Option Value} {base : Heap}
theorem upg_says {ea : EA} {k : Nat} {N : List Str} {ds : List D} {W : Str} {cells : List (Str × Addr)} {xs : List (Addr × Obj)} {vs : List V} (cp : CapC N cells xs vs) {l : D} (g : Gd τ P w K mg base ea k N ds W cells l) : Says τ P w K mg base ea k (upg xs vs ds l) W := by
  obtain ⟨ob, c', q, rfl, h⟩ := g
  exact h xs vs cp
theorem upg_R {ea : EA} {k : Nat} {N : List Str} {ds : List D} {W : Str} {cells : List (Str × Addr)} {xs : List (Addr × Obj)} {vs : List V} {H H' : Hp} {Mu Mu' : Addr → Prop} (st : ∀ b o, H b = some o → H' b = some o) (hx : ∀ p ∈ xs, H' p.1 = some (ObO p.1 p.2)) (rd : RA Mu' H' vs ds) :
    ∀ {us : List V} {ls : List D}, (∀ l ∈ ls, Gd τ P w K mg base ea k N ds W cells l) → RA Mu H us ls → RA Mu' H' us (ls.map (upg xs vs ds))
  | _, _, _, .nil => .nil
  | _, l :: ls, g, .cons r t => by
    obtain ⟨ob, c', q, rfl, _⟩ := g l List.mem_cons_self
    cases r with
    | fnc a1 a2 a3 a4 => exact .cons (.fnc (st _ _ a1) (st _ _ a2) hx rd) (upg_R st hx rd (fun x hx => g x (List.mem_cons_of_mem _ hx)) t)
theorem okMaker {x : Str} {st : Stmt} {N ps : List Str} {k k2 : Nat} {ea : EA} {cond : List D → Prop} {W : Str} (S : LawSt K mg base τ x st) (A : At K mg x st ps S.f S.fd) (Sg : FnScope N ps (defScope st)) (ndp : ps.Nodup) (hcell : ∀ p ∈ ps, (defScope st).names.lookup p = some .cell)
    (hb : ∀ (A' : Around) (outer : List Env) (s : Shared) (H : Hp) (E : XK) (vs : List V) (ds : List D) (s1 : Shared) (σ : L2.St), vs.length = ps.length → ds.length = ps.length → cond ds → flats ds = true → MkE τ (cxOf CX0 P w K mg base N x (defScope st) S.f (.ref S.c) A' outer s H E) H →
      Inv (cxOf CX0 P w K mg base N x (defScope st) S.f (.ref S.c) A' outer s H E) [] σ H s1 → (∀ (i : Nat) v, vs[i]? = some v → σ[i]? = some (some v)) →
      wpAny (model P w) (cxOf CX0 P w K mg base N x (defScope st) S.f (.ref S.c) A' outer s H E).A (execs (defBody st) (cxOf CX0 P w K mg base N x (defScope st) S.f (.ref S.c) A' outer s H E).env) (fun fl s' => ∃ l' σ' H' vs' ls', fl = .ret (.ref l') ∧ Inv (cxOf CX0 P w K mg base N x (defScope st) S.f (.ref S.c) A' outer s H E) [] σ' H' s' ∧ (∀ (i : Nat) v, vs[i]? = some v → σ'[i]? = some (some v)) ∧ (∀ o, H l' = some o → ¬ NT o) ∧ H' l' = some (.lst vs') ∧ RA (fun a => a = l') H' vs' ls' ∧ Same τ H H' ∧
        (∀ d ∈ ls', Gd τ P w K mg base ea k ps ds W (cxOf CX0 P w K mg base N x (defScope st) S.f (.ref S.c) A' outer s H E).env.cells d) ∧ ls'.length ≤ 1000) (cxOf CX0 P w K mg base N x (defScope st) S.f (.ref S.c) A' outer s H E).xe s1) : DM τ P w K mg base x (k2 + 1) ps.length (FMk τ P w K mg base ea k cond W) := by
  obtain ⟨oc, od, kV, doc, pm, an, ct, osl, e1, lk⟩ := S.ex
  refine ⟨S.f, S.fd, ps, ⟨fun vs H Q E ⟨_, Mu, ds, K', mu, r, hl, _⟩ => by rw [r.length, hl], fun A' outer s H args us vs Q E hr e0 hbd r ⟨tb, Mu, ds, K', mu, rA, hl, ⟨hc, hfl, hk⟩, q⟩ => ?_⟩, A.mg_, A.fn.kp, A.bd⟩
  rw [e1] at lk hbd
  have hvl : vs.length = ps.length := by rw [rA.length, hl]
  have KX : K.In s.heap := e0.mod.kin.keeps fun b o e => (e0.bs b o e).1
  have lim : s.heap.NoLimit := e0.mod.nolimit.keeps fun b o e => (e0.bs b o e).1
  have hkind : ∀ y ∈ ps.zip us, (defScope st).names.lookup y.1 = some .local ∨ ((defScope st).names.lookup y.1 = some .cell ∧ ((cellsFrom (s.heap.objs.size + 1) (defScope st).names []).lookup y.1).isSome = true) := fun y hy => by
    rcases Sg.par y.1 (List.of_mem_zip hy).1 with z | z
    · exact .inl z
    · exact .inr ⟨z, PySem.W.cellsFrom_some _ _ _ (.inl z)⟩
  refine codeAny_call_function hr.depth (KX _ _ lk) rfl Sg.co Sg.gen rfl (PySem.W.codeRec_of KX S.code) (hbd _ _ _ _ ?_)
  refine wpAny_newFunctionEnv_cells Sg.kind hkind fun env he s1 y => ?_
  subst he
  refine ⟨lim.keeps y.toInCall.keep, codeAny_func ?_⟩
  have I : Inv (cxOf CX0 P w K mg base N x (defScope st) S.f (.ref S.c) A' outer s H E) [] (L2.start N vs) H s1 := inv_start Sg hr.hd e0 hvl r y
  have hme : MkE τ (cxOf CX0 P w K mg base N x (defScope st) S.f (.ref S.c) A' outer s H E) H := ⟨S.c, S.P, tb, S.tb, rfl, S.mem, S.uni⟩
  refine wpAny_mono (hb A' outer s H E vs ds s1 _ hvl hl hc hfl hme I (fun i v hi => ?_)) (fun fl s' hq => ?_) fun e s' h => h
  · unfold L2.start
    have : i < (vs.map some).length := by rw [List.length_map]; exact (List.getElem?_eq_some_iff.mp hi).1
    rw [List.getElem?_append_left this, List.getElem?_map, hi]
    rfl
  · obtain ⟨l', σ', H', vs', ls', rfl, I', hσ, nl, el, rl, sm, hg, hlen⟩ := hq
    have hcl : ∀ (i : Nat) (p : Str), ps[i]? = some p → ∃ v u c ob, vs[i]? = some v ∧ RelV v u ∧ (cxOf CX0 P w K mg base N x (defScope st) S.f (.ref S.c) A' outer s H E).env.cells.lookup p = some c ∧ s'.heap.get? c = some ob ∧ ob.data = .cell (some u) := fun i p hi => by
      have hi' : i < vs.length := by rw [hvl]; exact (List.getElem?_eq_some_iff.mp hi).1
      have hp := hcell p (List.mem_of_getElem? hi)
      have hN : N[i]? = some p := by
        have := Sg.pre
        rw [← this, List.getElem?_take] at hi
        split at hi
        · exact hi
        · cases hi
      obtain ⟨m, _, hloc⟩ := I'.loc
      obtain ⟨u, ru, lu⟩ := hloc i p vs[i] hN (hσ i _ (List.getElem?_eq_getElem hi')) (.inr (.inl hp))
      rcases lu with ⟨k1, _⟩ | ⟨_, c, hc, ob, ho, hd⟩
      · have k1 : (defScope st).names.lookup p = some .local := k1
        rw [hp] at k1
        cases k1
      · exact ⟨vs[i], u, c, ob, List.getElem?_eq_getElem hi', ru, hc, ho, hd⟩
    obtain ⟨xs, cp, ndx, hx⟩ := caps_ex (h := s'.heap) hvl.symm ndp (fun a b c e1 e2 => I'.ok.inj a b c e1 e2) hcl
    have hn : ∀ p ∈ xs, H' p.1 = none := fun p hp => by
      obtain ⟨_, z, _, hz⟩ := hx p hp
      exact I'.freeC z p.1 hz
    have hgt : ∀ p ∈ xs, s'.heap.get? p.1 = some p.2 := fun p hp => (hx p hp).1
    have hge : ∀ p ∈ xs, s.heap.objs.size ≤ p.1 := fun p hp => by
      obtain ⟨_, z, _, hz⟩ := hx p hp
      exact I'.ok.cab z p.1 rfl hz
    have hpl : ∀ b o, H' b = some o → plus xs H' b = some o := fun b o e => plus_of hn e
    have un : Un (frs outer) [] H (plus xs H') s.heap s'.heap := by
      have u0 : Un (frs outer) [] H H' s.heap s'.heap := I'.base
      refine ⟨u0.keep, u0.slot, fun b o e n hx' => ?_, u0.there, fun b ys e => hpl _ _ (u0.tups b ys e), fun b o ys e => hpl _ _ (u0.frzs b o ys e), fun b qs e => ?_⟩
      · rw [plus_out fun z => by
          obtain ⟨p, hp, rfl⟩ := List.mem_map.mp z
          exact absurd (Nat.lt_of_lt_of_le (Heap.lt_size e) (hge p hp)) (Nat.lt_irrefl _)]
        exact u0.free b o e n hx'
      · obtain ⟨more, e2⟩ := u0.tbls b qs e
        exact ⟨more, hpl _ _ e2⟩
    have s2 := sm.trans (same_plus (τ := τ) hn)
    refine ⟨.ref l', plus xs H', I'.os, I'.bare, un, hok_plus ndx hn hgt I'.hok, rfl, ?_⟩
    refine q _ (hk (ls'.map (upg xs vs ds)) (by rw [List.length_map]; exact hlen) fun l hl => ?_) _ _ s2 (.lst (hpl _ _ el) (fun z => ?_) (upg_R (ea := ea) (k := k) (N := ps) (W := W) hpl (fun p hp => plus_in ndx hp) (rA.same s2) hg rl))
    · obtain ⟨l0, h0, rfl⟩ := List.mem_map.mp hl
      exact upg_says cp (hg l0 h0)
    · obtain ⟨o, h1, h2⟩ := mu l' z
      exact nl o h1 h2
end
/-! ### calls of makers -/
section
variable {X : Cx} {H0 : Hp} {pos : Pos} {e : Expr} {es : List Expr} {t : DA}
theorem pd_callM {x : Str} {p : Pos} {j k n : Nat} {F : FD} (d : DM τ X.prog X.w X.K X.mg X.base x j n F) (mk : MkL τ X H0) (hr : Room k X.A) (ha : PDA τ X H0 (e :: es) t) (hjk : j ≤ k := by decide) (hg : Gl X x := by rfl) (hdb : (x == ("__debug__" : Str)) = false := by decide)
    (he : starEach (e :: es) X.env = (false, eval e X.env) :: starEach es X.env := by rfl) (hpl : (backTo pos (starEach es X.env)).any (·.1) = false := by rfl) : PD τ X H0 (.Call (.Name x p) (e :: es) [] pos) (dCall n F t) := by
  obtain ⟨f, fd, ps, G, a, b, c⟩ := d.ex
  obtain ⟨_, _, tb, _⟩ := mk
  refine ⟨fun Mu => PE.imp (pe_call (dvs := []) G (hr.mono hjk) hg a b c .nil pass0 (ha.pa Mu) hdb he hpl) fun σ H Q h => ?_⟩
  obtain ⟨δ, K, es, h, q⟩ := h
  exact ⟨δ, _, es, h, fun ds h1 vs H1 s1 r1 => ⟨fun p hp => (es.sm.trans s1).tab p hp (tb p hp), Mu, ds, K, es.mu.same s1, by rw [List.append_nil]; exact r1, h1.1, h1.2, fun d hd v H' s r => q d hd v H' (s1.trans s) r⟩⟩
/-- a kept lambda of the def that runs -/
def dGood (G : D → Prop) : DE := fun _ K => ∀ l, G l → K l
theorem pd_good {params : Arguments} {body : Expr} {scope : Scope} {G : D → Prop} (mk : MkL τ X H0) (L : LamS X.env.scope scope) (hG : ∀ ob c', IsLam (X.env.qual ++ "<lambda>") params body scope (cloFrom X.env.cells scope.names []) ob c' → G (.fnc ob c' (X.env.qual ++ "<lambda>") [] [] [])) (nodef : defaultsOf params X.env = ([], []) := by rfl) :
    PD τ X H0 (.Lambda params body scope pos) (dGood G) :=
  ⟨fun Mu => PE.imp ((pd_lamF (pos := pos) mk L nodef).pe Mu) fun σ H Q ⟨δ, K, e, h, q⟩ => ⟨δ, K, e, fun ob c' il => h _ (hG ob c' il), q⟩⟩
/-- all that a list of such says, asked where their cells are this def's own -/
def dSaysLive (G : D → Prop) (i : Nat) (js : List Nat) (ds : List D) : DE := fun δ K => ∃ ls, dAt δ i = some (.lst ls) ∧ (∀ l ∈ ls, G l) ∧ ls.length ≤ 1000 ∧ js.length = ds.length ∧ (∀ (n j : Nat) (d : D), js[n]? = some j → ds[n]? = some d → dAt δ j = some d) ∧ K (.bl true)
end
def FAllSay (τ : Tbs) (P : Program) (w : World) (K : PySem.W.Frag) (mg : Str → Option Value) (base : Heap) (ea : EA) (k : Nat) : FD := fun ds Q => ∃ ls W, ds = [.lst ls, .str W] ∧ ls.length ≤ 1000 ∧ PyData.strOk W = true ∧ (∀ l ∈ ls, Says τ P w K mg base ea k l W) ∧ Q (.bl true)
theorem vals_of {H0 H : Hp} {σ : L2.St} {δ : DSt} {Mu : Addr → Prop} (e0 : ES τ Mu H0 H σ δ) : ∀ (js : List Nat) (ds : List D), js.length = ds.length → (∀ (n j : Nat) (d : D), js[n]? = some j → ds[n]? = some d → dAt δ j = some d) →
    ∃ vs : List V, vs.length = js.length ∧ RA Mu H vs ds ∧ ∀ (n j : Nat) v, js[n]? = some j → vs[n]? = some v → σ[j]? = some (some v)
  | [], [], _, _ => ⟨[], rfl, .nil, fun n j v hj => by simp at hj⟩
  | [], _ :: _, hl, _ => by simp at hl
  | _ :: _, [], hl, _ => by simp at hl
  | j0 :: js, d0 :: ds, hl, h4 => by
    obtain ⟨vs, a1, a2, a3⟩ := vals_of e0 js ds (by simpa using hl) fun n j d e1 e2 => h4 (n + 1) j d (by simpa using e1) (by simpa using e2)
    obtain ⟨v, b1, b2⟩ := e0.at_ j0 d0 (dAt_some (h4 0 j0 d0 rfl rfl))
    refine ⟨v :: vs, by simp [a1], .cons b2 a2, fun n j v' e1 e2 => ?_⟩
    cases n with
    | zero => simp at e1 e2; subst e1 e2; exact b1
    | succ n => exact a3 n j v' (by simpa using e1) (by simpa using e2)
section
variable {X : Cx} {H0 : Hp}
theorem pd_saysLive (i : Nat) (js : List Nat) {x y W : Str} {p p1 p2 pos : Pos} {jc : Nat} {j k k2 : Nat} {N : List Str} {ds : List D} {ea : EA} (d : DF τ X.prog X.w X.K X.mg X.base x j 2 (FAllSay τ X.prog X.w X.K X.mg X.base ea k2)) (hr : Room k X.A) (hW : PyData.strOk W = true) (hfl : flats ds = true)
    (hN : N.map some = js.map fun j => X.N[j]?) (ndp : N.Nodup) (hcell : ∀ p ∈ N, X.env.scope.names.lookup p = some .cell) (hfn : ∀ p, X.fn p = true) (hst : X.stack = X.env :: X.outer) (hex : X.ex = []) (hjk : j ≤ k := by decide)
    (hg : Gl X x := by rfl) (hy : X.N[i]? = some y := by rfl) (hv : Vis X.env.scope y := by first | exact Or.inl rfl | exact Or.inr (Or.inl rfl) | exact Or.inr (Or.inr rfl)) (hdy : (y == ("__debug__" : Str)) = false := by decide) (hcy : (y == ("__classdict__" : Str)) = false := by decide) (hdb : (x == ("__debug__" : Str)) = false := by decide)
    (he : starEach [.Name y p1, .Constant (.str W) jc p2] X.env = (false, eval (.Name y p1) X.env) :: starEach [.Constant (.str W) jc p2] X.env := by rfl) (hpl : (backTo pos (starEach [.Constant (.str W) jc p2] X.env)).any (·.1) = false := by rfl)
    (he2 : starEach [.Constant (.str W) jc p2] X.env = (false, eval (.Constant (.str W) jc p2) X.env) :: starEach [] X.env := by rfl) :
    PD τ X H0 (.Call (.Name x p) [.Name y p1, .Constant (.str W) jc p2] [] pos) (dSaysLive (Gd τ X.prog X.w X.K X.mg X.base ea k2 N ds W X.env.cells) i js ds) := by
  obtain ⟨f, fd, ps, G, a, b, c, _⟩ := d.ex
  refine ⟨fun Mu => ⟨fun pins s σ H Q I ⟨δ, K, e0, ⟨ls, h1, h2, h3, hjl, h4, hk⟩, q⟩ => ?_⟩⟩
  refine wpAny_Call_Name_kw (ld_glob I hg a ?_ hdb)
  obtain ⟨v1, ev1, rv1⟩ := e0.at_ i _ (dAt_some h1)
  have pa := pa_cons (pe_var (pos := p1) (i := i) hy hv hdy hcy) (pa_cons (pe_str (pos := p2) (j := jc) (x := W)) pa_nil he2) he
  refine PySem.W.callWith_K (h₀ := X.base) I.ok.mod.kin b (thn (pa.run pos pins s σ H (fun vs H1 => vs = [v1, .str W] ∧ H1 = H) I ⟨v1, ev1, rfl, rfl⟩) fun us s1 ⟨vs, H1, I1, r, e1, e2⟩ => ⟨I1.kIn, ?_⟩) he hpl
  subst e1 e2
  -- the cells
  have hNl : N.length = js.length := by have := congrArg List.length hN; simpa using this
  obtain ⟨vs, hvl0, rds, hσ⟩ := vals_of e0 js ds hjl h4
  have hvl : vs.length = N.length := by rw [hvl0, hNl]
  have hcl : ∀ (n : Nat) (p : Str), N[n]? = some p → ∃ v u c ob, vs[n]? = some v ∧ RelV v u ∧ X.env.cells.lookup p = some c ∧ s1.heap.get? c = some ob ∧ ob.data = .cell (some u) := fun n p hn => by
    have hp := hcell p (List.mem_of_getElem? hn)
    have hlt : n < vs.length := by rw [hvl]; exact (List.getElem?_eq_some_iff.mp hn).1
    have hjn : ∃ j, js[n]? = some j ∧ X.N[j]? = some p := by
      have := congrArg (fun l => l[n]?) hN
      simp only [List.getElem?_map, hn, Option.map_some] at this
      cases hj : js[n]? with
      | none => rw [hj] at this; cases this
      | some j => rw [hj] at this; exact ⟨j, rfl, (Option.some.inj this).symm⟩
    obtain ⟨j', hj1, hj2⟩ := hjn
    obtain ⟨m, _, hloc⟩ := I1.loc
    obtain ⟨u, ru, lu⟩ := hloc j' p vs[n] hj2 (hσ n j' _ hj1 (List.getElem?_eq_getElem hlt)) (.inr (.inl hp))
    rcases lu with ⟨k1, _⟩ | ⟨_, c, hc, ob, ho, hd⟩
    · have k1 : X.env.scope.names.lookup p = some .local := k1
      rw [hp] at k1
      cases k1
    · exact ⟨vs[n], u, c, ob, List.getElem?_eq_getElem hlt, ru, hc, ho, hd⟩
  obtain ⟨xs, cp, ndx, hx⟩ := caps_ex (h := s1.heap) hvl.symm ndp (fun a b c e1 e2 => I1.ok.inj a b c e1 e2) hcl
  have hn : ∀ p ∈ xs, H1 p.1 = none := fun p hp => by
    obtain ⟨_, z, _, hz⟩ := hx p hp
    exact I1.freeC z p.1 hz
  have hgt : ∀ p ∈ xs, s1.heap.get? p.1 = some p.2 := fun p hp => (hx p hp).1
  have hpl2 : ∀ b o, H1 b = some o → plus xs H1 b = some o := fun b o e => plus_of hn e
  have e0' := I1.env0
  have isc : ∀ p ∈ xs, ∃ v, p.2.data = .cell v := fun p hp => by
    obtain ⟨n, hn'⟩ := List.mem_iff_getElem?.mp hp
    have hlt : n < N.length := by have h1 := (List.getElem?_eq_some_iff.mp hn').1; have h2 := cp.1; have h3 := cp.2.1; omega
    obtain ⟨c0, ob0, v, u, d1, d2, d3, d4, d5⟩ := cp.2.2 n N[n] (List.getElem?_eq_getElem hlt)
    rw [hn'] at d2
    cases d2
    exact ⟨_, d5⟩
  have nof : ∀ b ∈ frs X.stack, b ∉ xs.map (·.1) := fun b hb z => by
    obtain ⟨p, hp, rfl⟩ := List.mem_map.mp z
    obtain ⟨_, y', _, hz⟩ := hx p hp
    rcases List.mem_cons.mp (I1.stkSub _ hb) with e | hb'
    · exact I1.cne y' p.1 hz e
    · obtain ⟨_, o, ho, _⟩ := I1.ok.funs.mem hb'
      exact absurd (Nat.lt_of_lt_of_le (Heap.lt_size ho) (I1.ok.cab y' p.1 (hfn y') hz)) (Nat.lt_irrefl _)
  have e1' : Env0 X.prog X.w X.K X.mg X.base X.A X.stack s1 (plus xs H1) := by
    refine ⟨e0'.frames, e0'.mod, fun b o e => ⟨(e0'.bs b o e).1, ?_⟩, e0'.bsz, e0'.funs, fun b hb => ?_, hok_plus ndx hn hgt e0'.hok, e0'.bare⟩
    · rw [plus_out fun z => ?_]
      · exact (e0'.bs b o e).2
      · obtain ⟨p, hp, rfl⟩ := List.mem_map.mp z
        obtain ⟨_, y', _, hz⟩ := hx p hp
        have h1 := I1.ok.cab y' p.1 (hfn y') hz
        have h2 := Nat.lt_of_lt_of_le (Heap.lt_size e) I1.ok.bsz
        exact absurd (Nat.lt_of_lt_of_le h2 h1) (Nat.lt_irrefl _)
    · rw [plus_out (nof b hb)]
      exact e0'.frf b hb
  have muP : MuT Mu (plus xs H1) := fun a z => by
    obtain ⟨o, h1, h2⟩ := e0.mu a z
    exact ⟨o, hpl2 _ _ h1, h2⟩
  have sP := same_plus (τ := τ) (xs := xs) (H := H1) hn
  have rls : R Mu (plus xs H1) v1 (.lst (ls.map (upg xs vs ds))) := by
    cases rv1 with
    | lst b1 b2 b3 => exact .lst (hpl2 _ _ b1) b2 (upg_R (ea := ea) (k := k2) (N := N) (W := W) (cells := X.env.cells) hpl2 (fun p hp => plus_in ndx hp) (rds.same sP) h2 b3)
  have hS : ∀ l ∈ ls.map (upg xs vs ds), Says τ X.prog X.w X.K X.mg X.base ea k2 l W := fun l hl => by
    obtain ⟨l0, h0, rfl⟩ := List.mem_map.mp hl
    exact upg_says cp (h2 l0 h0)
  have hl2 : (us ++ []).length = ps.length := by
    have := G.len _ _ (fun _ _ => True) C8.E0 ⟨Mu, [.lst (ls.map (upg xs vs ds)), .str W], fun _ => True, muP, .cons rls (.cons (.str W) .nil), rfl, ⟨_, W, rfl, by rw [List.length_map]; exact h3, hW, hS, trivial⟩, fun _ _ _ _ _ _ => trivial⟩
    rw [List.append_nil, ← this, r.length]
  have hbt := c s1 us I1.kIn hl2
  rw [List.append_nil] at hbt
  refine wpAny_call (codeAny_mono (G.run X.A X.stack s1 (plus xs H1) ⟨us, []⟩ us [v1, .str W] (fun v H2 => v = .bl true ∧ Same τ (plus xs H1) H2) C8.E0 (hr.mono hjk) e1' hbt r ⟨Mu, [.lst (ls.map (upg xs vs ds)), .str W], fun d => d = .bl true, muP, .cons rls (.cons (.str W) .nil), rfl, ⟨_, W, rfl, by rw [List.length_map]; exact h3, hW, hS, rfl⟩, fun d hd v H' s' r' => by subst hd; cases r'; exact ⟨rfl, s'⟩⟩) fun rr s' hq => ?_)
  match rr, hq with
  | .error e, hq => exact (show False from hq).elim
  | .ok (.ret u), hq =>
    obtain ⟨v, H2, os, bare, un, ok2, rv, rfl, s2⟩ := hq
    have cs2 : Cels (xs.map (·.1)) H2 s'.heap := fun c hc => by
      obtain ⟨p, hp, rfl⟩ := List.mem_map.mp hc
      obtain ⟨v, hv⟩ := isc p hp
      have e2 := s2.app _ _ (plus_in ndx hp) (ObO_nt _ _)
      exact ⟨p.2, v, e2, obO_get ok2 e2, hv⟩
    have ok3 := hok_less cs2 ok2
    have un3 : Un (frs X.stack) [] H1 (less (xs.map (·.1)) H2) s1.heap s'.heap := by
      have io : ∀ {b : Addr}, b ∉ xs.map (·.1) → plus xs H1 b = H1 b := fun h => plus_out h
      refine ⟨fun b o e n hb hx' => ?_, fun b o e n hb hx' => ?_, fun b o e n hx' => ?_, un.there, fun b ys e => ?_, fun b o ys e => ?_, fun b qs e => ?_⟩
      · by_cases z : b ∈ xs.map (·.1)
        · obtain ⟨p, hp, rfl⟩ := List.mem_map.mp z
          rw [hgt p hp] at e
          cases e
          exact obO_get ok2 (s2.app _ _ (plus_in ndx hp) (ObO_nt _ _))
        · exact un.keep b o e (by rw [io z]; exact n) hb hx'
      · exact un.slot b o e (by rw [io (nof b hb)]; exact n) hb hx'
      · by_cases z : b ∈ xs.map (·.1)
        · exact less_in z
        · rw [less_out z]
          exact un.free b o e (by rw [io z]; exact n) hx'
      · have z : b ∉ xs.map (·.1) := fun z => by obtain ⟨p, hp, rfl⟩ := List.mem_map.mp z; rw [hn p hp] at e; cases e
        rw [less_out z]
        exact un.tups b ys (hpl2 _ _ e)
      · have z : b ∉ xs.map (·.1) := fun z => by obtain ⟨p, hp, rfl⟩ := List.mem_map.mp z; rw [hn p hp] at e; cases e
        rw [less_out z]
        exact un.frzs b o ys (hpl2 _ _ e)
      · have z : b ∉ xs.map (·.1) := fun z => by obtain ⟨p, hp, rfl⟩ := List.mem_map.mp z; rw [hn p hp] at e; cases e
        rw [less_out z]
        exact un.tbls b qs (hpl2 _ _ e)
    have s4 : Same τ H1 (less (xs.map (·.1)) H2) := by
      have ap : ∀ b o, H1 b = some o → b ∉ xs.map (·.1) := fun b o e z => by obtain ⟨p, hp, rfl⟩ := List.mem_map.mp z; rw [hn p hp] at e; cases e
      refine ⟨fun b o e nt => by rw [less_out (ap b o e)]; exact s2.app b o (hpl2 _ _ e) nt, fun p hp z => ?_⟩
      obtain ⟨qs, a1, a2, a3⟩ := s2.tab p hp (sP.tab p hp z)
      refine ⟨qs, by rw [less_out (cs2.out a1 fun _ _ z => nomatch z)]; exact a1, a2, fun pos cv hc => ?_⟩
      obtain ⟨c0, b1, b2⟩ := a3 pos cv hc
      exact ⟨c0, b1, by rw [less_out fun z => cs2.nocode z b2]; exact b2⟩
    obtain ⟨v', H', I', rv', ev, eH⟩ := I1.after (Q := fun v H' => v = .bl true ∧ H' = less (xs.map (·.1)) H2) ⟨_, _, os, bare, un3, ok3, rv, rfl, rfl⟩
    subst ev eH
    exact ⟨_, _, I', rv', q _ hk _ _ s4 (.bl true)⟩
end
end Gf
namespace Gf
open PySem PySem.Spec PyProof.Rows L2 L2H HotX LamX
variable {τ : Tbs}
/-! ### methods, and the making of instances whose __init__ raises -/
structure MAt (K : PySem.W.Frag) (m q : Str) (st : Stmt) (ps : List Str) (f : Addr) (fd : FuncData) : Prop where
  fn : Fun K m q st f fd
  bd : Binds K fd ps []
section
variable {P : Program} {w : World} {K : PySem.W.Frag} {mg : Str → Option Value} {base : Heap}
theorem MAt.okX {m q : Str} {st : Stmt} {f : Addr} {fd : FuncData} {N ps : List Str} {k n : Nat} {F : FR} (A : MAt K m q st ps f fd) (S : FnScope N ps (defScope st)) (hn : ps.length = n) (t : (Addr → Prop) → DTS)
    (hb : ∀ (cdv : Value) (A : Around) (outer : List Env) (s : Shared) (H : Hp) (E : XK) (EK : Addr → Prop), RX τ (cxOf (L2N.CX P w) P w K mg base N q (defScope st) f cdv A outer s H E) H EK → Room k (A.deeper (envOfC q (defScope st) s.heap.objs.size f cdv)) → PDSs τ (cxOf (L2N.CX P w) P w K mg base N q (defScope st) f cdv A outer s H E) H (defBody st) (t EK))
    (h : ∀ ds EK, ds.length = n → F ds EK → t EK { nx := fun _ => False, rt := fun _ => False } (startD N.length ds)) : VX τ P w K mg base (k + 1) n f (fun ds _ EK => F ds EK) := by
  obtain ⟨oc, od, kV, doc, pm, an, cdv, ct, osl, e1, lk, hcd⟩ := A.fn.ex
  refine ⟨fd, ps, ?_, A.fn.kp, A.bd⟩
  subst e1
  refine fn_of lk hcd S (fun vs H Q E hsp => ?_) fun A' outer s H vs Q E hr hsp => ?_
  · obtain ⟨Mu, ds, K', EK, mu, r, hl, _⟩ := hsp
    rw [r.length, hl, hn]
  · obtain ⟨Mu, ds, K', EK, mu, r, hl, hF, q', hE⟩ := hsp
    have hpl : ps.length ≤ N.length := by have := congrArg List.length S.pre; rw [List.length_take] at this; omega
    refine ⟨_, (hb cdv A' outer s H E EK ⟨fun cls d _ H => E cls d H, L2N.takes_of rfl rfl rfl rfl, fun C hC σ H' s => hE C hC H' s⟩ hr).pss Mu, ?_, startD N.length ds, _, es_start mu r, h ds EK hl hF, ?_⟩
    · unfold L2.start
      show _ = N.length
      rw [List.length_append, List.length_map, List.length_replicate, r.length, hl, ← hn]
      omega
    · exact ⟨fun δ' h' σ' H' _ s' _ => h'.elim, fun _ h' => h'.elim, fun _ h' _ _ _ _ _ => h'.elim, fun _ h' _ _ _ _ _ => h'.elim⟩
end
/-- what the top has of a class -/
structure CAt (K : PySem.W.Frag) (mg : Str → Option Value) (x : Str) (C f : Addr) : Prop where
  mg_ : mg x = some (.ref C)
  mkC : Mk K C f
section
variable {X : Cx} {H0 : Hp} {EK : Addr → Prop} {pos : Pos} {e : Expr} {es : List Expr} {t : DA}
def dMakeX (n : Nat) (F : FX) (EK : Addr → Prop) (t : DA) : DE := fun δ K => t δ fun ds => ds.length = n ∧ ∀ x, F (.raw (.ref x) :: ds) (fun _ => False) EK
theorem same_make {H : Hp} {x dx C : Addr} (h1 : H x = none) (h2 : H dx = none) (ne : dx ≠ x) : Same τ H (upd (upd H dx (.own x)) x (.ins C dx [])) :=
  (same_new h2).trans (same_new (by rw [upd_ne (Ne.symm ne)]; exact h1))
theorem pd_makeX {x : Str} {p : Pos} {C f : Addr} {j k n : Nat} {F : FX} (c : CAt X.K X.mg x C f) (d : VX τ X.prog X.w X.K X.mg X.base j (n + 1) f F) (hr : Room (k + 1) X.A) (rx : RX τ X H0 EK) (ha : PDA τ X H0 (e :: es) t) (hjk : j ≤ k := by decide) (hg : Gl X x := by rfl) (hdb : (x == ("__debug__" : Str)) = false := by decide)
    (he : starEach (e :: es) X.env = (false, eval e X.env) :: starEach es X.env := by rfl) (hpl : (backTo pos (starEach es X.env)).any (·.1) = false := by rfl) : PD τ X H0 (.Call (.Name x p) (e :: es) [] pos) (dMakeX n F EK t) := by
  obtain ⟨fd, ps, G, a, b⟩ := d.ex
  refine ⟨fun Mu => PE.imp (pe_make (dvs := []) c.mkC G (hr.mono (by omega)) hg c.mg_ b .nil rx.pass (ha.pa Mu) hdb he hpl) fun σ H Q ⟨δ, K, e0, h, q⟩ => ?_⟩
  refine ⟨δ, _, e0, h, fun ds h1 vs H1 s1 r1 y dy n1 n2 ne => ?_⟩
  have s2 := same_make (τ := τ) (C := C) n1 n2 ne
  exact ⟨Mu, .raw (.ref y) :: ds, fun _ => False, EK, (e0.mu.same s1).same s2, .cons (.raw _) (by rw [List.append_nil]; exact r1.same s2), by rw [List.length_cons, h1.1], h1.2 y, fun _ z => z.elim, fun C hC H' s => ⟨C, rfl, rfl, hC, e0.sm.trans (s1.trans (s2.trans s))⟩⟩
end
/-! ### .. of a starred __init__ -/
theorem cxUpN {P : Program} {w : World} : StX.CXUp (L2N.CX P w) := by
  intro outer s H s2 H2 E e s' un kp ho x
  obtain ⟨a, B, H', cls, d, ea, fl, ok, ub, na, os, ag, he⟩ := x
  have fr : ∀ b o, s.heap.get? b = some o → H b = none → H2 b = none := fun b o q n => un.free b o q n (by simp)
  refine ⟨a, B, H', cls, d, ea, fl, ok, ⟨fun b o q n hb => ub.keep b o (kp b o q) (fr b o q n) hb, fun b o q hb => ub.slot b o (kp b o q) hb, fun b o q n => ub.free b o (kp b o q) (fr b o q n), fun b o q hb => ub.there b o (kp b o q) hb, fun b xs q => ub.tups b xs (un.tups b xs q), fun b o xs q => ub.frzs b o xs (un.frzs b o xs q), fun b ps q => ?_⟩, na, os.trans ho, ag, he⟩
  obtain ⟨m1, e1⟩ := un.tbls b ps q
  obtain ⟨m2, e2⟩ := ub.tbls b _ e1
  exact ⟨m1 ++ m2, by rw [e2, Array.append_assoc]⟩
/-- .. the promise of a def f(self, *rest) that raises: of the rest as data -/
structure VS (τ : Tbs) (P : Program) (w : World) (K : PySem.W.Frag) (mg : Str → Option Value) (base : Heap) (k : Nat) (f : Addr) (F : FR) : Prop where
  ex : FnR P w K mg base (L2N.CX P w) k f (fun vs H _ E => ∃ Mu x us ds EK, vs = .ref x :: us ∧ MuT Mu H ∧ RA Mu H us ds ∧ ds.length ≤ sizeLine ∧ F ds EK ∧ ∀ C, EK C → ∀ H', Same τ H H' → E (.ref C) none H')
section
variable {P : Program} {w : World} {K : PySem.W.Frag} {mg : Str → Option Value} {base : Heap}
theorem okXStar {m q self pv : Str} {st : Stmt} {f : Addr} {fd : FuncData} {N : List Str} {k : Nat} {F : FR} (A : Fun K m q st f fd) (S : FnScope N ([self] ++ [pv]) (defScope st)) (t : (Addr → Prop) → DTS)
    (hbind : ∀ (kV doc pm : Value) (an : Option Addr) (cdv ct : Value) (us rest : List Value), us.length = [self].length → bindArgs (PySem.W.fnOf m q (defArgs st) (defBody st) (defScope st) .none kV doc pm an cdv ct) ⟨us ++ rest, []⟩ = (newTuple rest >>= fun t => pure ([self].zip us ++ [(pv, t)])))
    (hb : ∀ (cdv : Value) (A : Around) (outer : List Env) (s : Shared) (H : Hp) (E : XK) (EK : Addr → Prop), RX τ (cxOf (L2N.CX P w) P w K mg base N q (defScope st) f cdv A outer s H E) H EK → Room k (A.deeper (envOfC q (defScope st) s.heap.objs.size f cdv)) → PDSs τ (cxOf (L2N.CX P w) P w K mg base N q (defScope st) f cdv A outer s H E) H (defBody st) (t EK))
    (h : ∀ x ds EK, F ds EK → t EK { nx := fun _ => False, rt := fun _ => False } (startD N.length [.raw (.ref x), .tup ds])) : VS τ P w K mg base (k + 1) f F := by
  obtain ⟨oc, od, kV, doc, pm, an, cdv, ct, osl, e1, lk, hcd⟩ := A.ex
  subst e1
  have g := StX.fn_star (CX := L2N.CX P w) (P := P) (w := w) (mg := mg) (base := base) (k := k) (N := N) (ps := [self]) (pv := pv) (sp := fun vs H Q E => ∃ Mu x p ds EK, vs = [.ref x, .ref p] ∧ MuT Mu H ∧ R Mu H (.ref p) (.tup ds) ∧ F ds EK ∧ ∀ C, EK C → ∀ H', Same τ H H' → E (.ref C) none H')
    lk hcd S cxUpN (fun us rest hl => hbind kV doc pm an cdv ct us rest hl) fun A' outer s H vs Q E hr ⟨Mu, x, p, ds, EK, e2, mu, r, hF, hE⟩ => ?_
  · refine ⟨fun A' outer s H us vs Q E hr e0 r ⟨Mu, x, ws, ds, EK, e2, mu, rA, hl, hF, hE⟩ => ?_⟩
    refine g A' outer s H us vs Q E hr e0 r ⟨[.ref x], ws, e2, rfl, by rw [rA.length]; exact hl, fun p np => ?_⟩
    have s1 := same_new (τ := τ) (o := .tup ws) np
    exact ⟨Mu, x, p, ds, EK, rfl, mu.same s1, .tup upd_same (rA.same s1), hF, fun C hC H' s' => hE C hC H' (s1.trans s')⟩
  · subst e2
    have hpl : 2 ≤ N.length := by have := congrArg List.length S.pre; rw [List.length_take] at this; simp at this; omega
    have rA : RA Mu H [.ref x, .ref p] [.raw (.ref x), .tup ds] := .cons (.raw _) (.cons r .nil)
    refine ⟨_, (hb cdv A' outer s H E EK ⟨fun cls d _ H => E cls d H, L2N.takes_of rfl rfl rfl rfl, fun C hC σ H' s => hE C hC H' s⟩ hr).pss Mu, ?_, startD N.length [.raw (.ref x), .tup ds], _, es_start mu rA, h x ds EK hF, ?_⟩
    · unfold L2.start
      show _ = N.length
      rw [List.length_append, List.length_map, List.length_replicate, rA.length]
      show 2 + (N.length - 2) = N.length
      omega
    · exact ⟨fun δ' h' σ' H' _ s' _ => h'.elim, fun _ h' => h'.elim, fun _ h' _ _ _ _ _ => h'.elim, fun _ h' _ _ _ _ _ => h'.elim⟩
end
section
variable {X : Cx} {H0 : Hp} {EK : Addr → Prop} {pos : Pos} {e : Expr} {es : List Expr} {t : DA}
def dMakeS (F : FR) (EK : Addr → Prop) (t : DA) : DE := fun δ K => t δ fun ds => ds.length ≤ sizeLine ∧ F ds EK
theorem pd_makeS {x : Str} {p : Pos} {C f : Addr} {j k : Nat} {F : FR} (c : CAt X.K X.mg x C f) (d : VS τ X.prog X.w X.K X.mg X.base j f F) (hr : Room (k + 1) X.A) (rx : RX τ X H0 EK) (ha : PDA τ X H0 (e :: es) t) (hjk : j ≤ k := by decide) (hg : Gl X x := by rfl) (hdb : (x == ("__debug__" : Str)) = false := by decide)
    (he : starEach (e :: es) X.env = (false, eval e X.env) :: starEach es X.env := by rfl) (hpl : (backTo pos (starEach es X.env)).any (·.1) = false := by rfl) : PD τ X H0 (.Call (.Name x p) (e :: es) [] pos) (dMakeS F EK t) := by
  refine ⟨fun Mu => PE.imp (StX.pe_makeR c.mkC (fun A outer s H us vs Q E hr' e0 r h => d.ex A outer s H us vs Q E hr' e0 r h) (hr.mono (by omega)) hg c.mg_ rx.pass (ha.pa Mu) hdb he hpl) fun σ H Q ⟨δ, K, e0, h, q⟩ => ?_⟩
  refine ⟨δ, _, e0, h, fun ds h1 vs H1 s1 r1 y dy n1 n2 ne => ?_⟩
  have s2 := same_make (τ := τ) (C := C) n1 n2 ne
  exact ⟨Mu, y, vs, ds, EK, rfl, (e0.mu.same s1).same s2, r1.same s2, h1.1, h1.2, fun C hC H' s => ⟨C, rfl, rfl, hC, e0.sm.trans (s1.trans (s2.trans s))⟩⟩
end
end Gf
namespace Gf
open PySem PySem.Spec PyProof.Rows L2 L2H HotX LamX
variable {τ : Tbs}
theorem pdss_never {X : Cx} {H0 : Hp} {sts : List Stmt} : PDSs τ X H0 sts (fun _ _ => False) := ⟨fun Mu => PSs.imp pss_never fun Z σ H _ ⟨hn, δ, K, e, h, z⟩ => h⟩
/-! ### a list of one's own: some statements write it, then the block goes on and reads it as data -/
abbrev CTS := DEnds → DSt → List D → Prop
def LOc (τ : Tbs) (Mu : Addr → Prop) (H0 : Hp) (i n : Nat) (t : CTS) : TS := fun Z σ H => σ.length = n ∧ ∃ Hb H1 a δ xs K, Same τ H0 Hb ∧ Same τ Hb H1 ∧ OS τ Mu a i H1 H σ δ xs ∧ t K δ xs ∧ EndsOk τ Mu H0 Hb n K Z
structure POc (τ : Tbs) (X : Cx) (H0 : Hp) (i : Nat) (st : List Stmt) (t : CTS) : Prop where
  pss : ∀ Mu, PSs X st (LOc τ Mu H0 i X.N.length t)
section
variable {X : Cx} {H0 : Hp} {i : Nat} {st : Stmt} {rest : List Stmt} {pos : Pos}
def cStep (t : OTS) (u : CTS) : CTS := fun K δ xs => t { nx := fun δ' xs' => u K δ' xs', rt := fun d _ => K.rt d } δ xs
theorem poc_cons {t : OTS} {u : CTS} (h1 : ∀ H1, Same τ H0 H1 → POw τ X H1 i st t) (h2 : POc τ X H0 i rest u) : POc τ X H0 i (st :: rest) (cStep t u) := by
  refine ⟨fun Mu => ⟨fun pins s σ H Z I ⟨hn, Hb, H1, a, δ, xs, K, s0, s1, o, h, z⟩ => ?_⟩⟩
  refine (pss_cons ((h1 H1 (s0.trans s1)).ps Mu) (h2.pss Mu)).run pins s σ H Z I ⟨hn, a, δ, xs, _, o, h, fun δ' xs' h' σ' H' l' s' o' => ⟨l', Hb, H1, a, δ', xs', K, s0, s1, o', h', z⟩, fun d _ hd v H' _ s' r _ => z.rt d hd v H' (s1.trans s') r, fun _ _ h' => h'.elim, fun _ _ h' => h'.elim⟩
def cEnd (i : Nat) (u : DTS) : CTS := fun K δ xs => u K (δ.set i (some (.lst xs)))
theorem poc_end {u : DTS} (h2 : PDSs τ X H0 rest u) : POc τ X H0 i rest (cEnd i u) := by
  refine ⟨fun Mu => PSs.imp (h2.pss Mu) fun Z σ H hl ⟨hn, Hb, H1, a, δ, xs, K, s0, s1, o, h, z⟩ => ?_⟩
  have e' := o.pub
  have sm : Same τ Hb H := s1.trans e'.sm
  exact ⟨hn, _, K, ⟨e'.mu, s0.trans sm, e'.at_⟩, h, z.same sm⟩
def dNewC (i : Nat) (tn : DA) (u : CTS) : DTS := fun K δ => i < δ.length ∧ tn δ fun ds => ∀ a, u K (δ.set i (some (.raw (.ref a)))) ds
theorem pdss_newC (i : Nat) {e : Expr} {tda : DA} {u : CTS} {x : Str} {pos' : Pos} (he : PDN τ X H0 e tda) (hr : POc τ X H0 i rest u) (hN : X.N.Nodup) (hi : X.N[i]? = some x := by rfl) (hx : Loc X.env.scope x := by first | exact Or.inl rfl | exact Or.inr rfl) (hs : swapsWith e (some (.Name x pos')) pos.line X.env = pure false := by rfl)
    (hf : X.fn x = true ∨ X.env.scope.names.lookup x = some .local := by first | exact .inl rfl | exact .inr rfl | assumption) : PDSs τ X H0 (.Assign [.Name x pos'] e pos :: rest) (dNewC i tda u) := by
  refine ⟨fun Mu => PSs.imp (pss_cons (ps_set hN hi hx (he.pe Mu) hs hf) (hr.pss Mu)) fun Z σ H _ ⟨hn, δ, K, e, ⟨hd, h⟩, z⟩ => ?_⟩
  have hl : i < σ.length := by rw [hn]; exact (List.getElem?_eq_some_iff.mp hi).1
  exact ⟨δ, _, e, h, fun ds h1 p vs H1 s1 hp r1 => ⟨by rw [List.length_set]; exact hn, H, H1, p, _, ds, K, e.sm, s1, os_new e s1 hp r1 hl hd, h1 p, z⟩⟩
end
theorem MkL.same {X : Cx} {H0 H1 : Hp} (m : MkL τ X H0) (s : Same τ H0 H1) : MkL τ X H1 := by
  obtain ⟨c, P, tb, a⟩ := m
  exact ⟨c, P, fun p hp => s.tab p hp (tb p hp), a⟩
theorem nodup_snd {x y : Str} {c : Addr} : ∀ {l : List (Str × Addr)}, (l.map (·.2)).Nodup → (x, c) ∈ l → (y, c) ∈ l → x = y
  | p :: l, nd, h1, h2 => by
    rw [List.map_cons, List.nodup_cons] at nd
    rcases List.mem_cons.mp h1 with e1 | h1
    · rcases List.mem_cons.mp h2 with e2 | h2
      · exact congrArg Prod.fst (e1.trans e2.symm)
      · exact absurd (List.mem_map.mpr ⟨_, h2, by rw [← e1]⟩) nd.1
    · rcases List.mem_cons.mp h2 with e2 | h2
      · exact absurd (List.mem_map.mpr ⟨_, h1, by rw [← e2]⟩) nd.1
      · exact nodup_snd nd.2 h1 h2
theorem cells_nd : ∀ (names : List (Str × NameKind)) (n : Nat) (acc : List (Str × Addr)), (∀ p ∈ acc, p.2 < n) → (acc.map (·.2)).Nodup → ((cellsFrom n names acc).map (·.2)).Nodup
  | [], _, _, _, h => h
  | (y, k) :: r, n, acc, h1, h2 => by
    unfold cellsFrom
    split
    · refine cells_nd r _ _ (fun p hp => ?_) ?_
      · rcases List.mem_cons.mp hp with e | hp
        · rw [e]; exact Nat.lt_succ_self _
        · exact Nat.lt_succ_of_lt (h1 p hp)
      · rw [List.map_cons, List.nodup_cons]
        refine ⟨fun hm => ?_, h2⟩
        obtain ⟨p, hp, e⟩ := List.mem_map.mp hm
        have := h1 p hp
        have e : p.2 = n := e
        rw [e] at this
        exact absurd this (Nat.lt_irrefl _)
    · exact cells_nd r _ _ h1 h2
theorem cells_inj {names : List (Str × NameKind)} {n : Nat} (x y : Str) (c : Addr) (h1 : (cellsFrom n names []).lookup x = some c) (h2 : (cellsFrom n names []).lookup y = some c) : x = y :=
  nodup_snd (cells_nd names n [] (fun _ h => nomatch h) List.nodup_nil) (PySem.mem_of_lookup h1) (PySem.mem_of_lookup h2)
/-! ### the law's own def, its cells told -/
section
variable {P : Program} {w : World} {K : PySem.W.Frag} {mg : Str → Option Value} {base : Heap}
theorem okLawC {st : Stmt} {N ps : List Str} {k : Nat} (A : LawSt K mg base τ "law" st) (S : FnScope N ps (defScope st)) (hn : ps.length = 1) (t : List (Str × Addr) → Addr → List Int → DTS)
    (hb : ∀ (A' : Around) (outer : List Env) (s : Shared) (H : Hp) (E : XK) (a : Addr) (ns : List Int), SqL K H a (ns.map V.int) → MkL τ (cxOf CX0 P w K mg base N "law" (defScope st) A.f (.ref A.c) A' outer s H E).nox H → Room k (A'.deeper (envOfC "law" (defScope st) s.heap.objs.size A.f (.ref A.c))) →
      PDSs τ (cxOf CX0 P w K mg base N "law" (defScope st) A.f (.ref A.c) A' outer s H E).nox H (defBody st) (t (cellsFrom (s.heap.objs.size + 1) (defScope st).names []) a ns))
    (h : ∀ cl a ns (Q : DK), ns.length ≤ 63 → Q (.bl true) → t cl a ns { nx := fun _ => Q .non, rt := Q } (startD N.length [.raw (.ref a)])) : FnOk P w K mg base CX0 (k + 1) A.f A.fd ps (SpLawT τ K) := by
  obtain ⟨oc, od, kV, doc, pm, an, ct, osl, e1, lk⟩ := A.ex
  rw [e1] at lk ⊢
  refine fn_of lk A.code S (fun vs H Q E hsp => ?_) fun A' outer s H vs Q E hr hsp => ?_
  · obtain ⟨a, ns, rfl, hS, _⟩ := hsp
    rw [hn]; rfl
  · obtain ⟨a, ns, rfl, hS, hT, hl, q⟩ := hsp
    have hpl : ps.length ≤ N.length := by have := congrArg List.length S.pre; rw [List.length_take] at this; omega
    refine ⟨_, ((hb A' outer s H E a ns hS ⟨A.c, A.P, hT, A.tb, rfl, A.mem, A.uni⟩ hr).pss (fun _ => False)).nox, ?_, startD N.length [.raw (.ref a)], _, es_start (fun _ z => z.elim) (.cons (.raw _) .nil), h _ a ns (fun d => d = .bl true) hl rfl, ?_⟩
    · unfold L2.start
      show _ = N.length
      rw [List.length_append, List.length_map, List.length_replicate, List.length_cons, List.length_nil]
      omega
    · exact ⟨fun δ' h' σ' H' _ s' _ => (nomatch h'), fun d hd v H' s' r => by subst hd; cases r; exact q H', fun _ h' _ _ _ _ _ => h'.elim, fun _ h' _ _ _ _ _ => h'.elim⟩
end
end Gf
namespace Gf
open PySem PySem.Spec PyProof.Rows L2
variable {τ : Tbs}
/-! ### pairs of ints compared -/
def rGeT (K : PySem.W.Frag) : R2 := fun x y H Q => ∃ (a b : Addr) (ns ms : List Int), x = .ref a ∧ y = .ref b ∧ SqT K H a (ns.map V.int) ∧ SqT K H b (ms.map V.int) ∧
  Q (.bl (Ob.lexAt (fun j => decide (ns.getD j 0 = ms.getD j 0)) (fun j => decide (ms.getD j 0 ≤ ns.getD j 0)) (decide (ns.length ≥ ms.length)) 0 (min ns.length ms.length))) H
theorem op_geT {X : Cx} (hu : X.A.units < cLine) : OpR X (compareOp .GtE) (rGeT X.K) := by
  intro pins s σ H x y v u Q I rx ry h
  obtain ⟨a, b, ns, ms, rfl, rfl, ha, hb, q⟩ := h
  cases rx
  cases ry
  obtain ⟨its, r1, p1, _⟩ := I.tuple ha
  obtain ⟨its2, r2, p2, _⟩ := I.tuple hb
  have i1 : IntsAre its ns := Vals.ints r1
  have i2 : IntsAre its2 ms := Vals.ints r2
  have e1 : its.toArray.size = ns.length := by rw [List.size_toArray]; exact i1.length
  have e2 : its2.toArray.size = ms.length := by rw [List.size_toArray]; exact i2.length
  have at1 : ∀ j (h1 : j < its.toArray.size), ∃ t, its.toArray[j] = .int (ns.getD j 0) t := fun j h1 => PyProof.Rows.IntsAre.int_at i1 _ _ (by simp at h1; simp [h1])
  have at2 : ∀ j (h1 : j < its2.toArray.size), ∃ t, its2.toArray[j] = .int (ms.getD j 0) t := fun j h1 => PyProof.Rows.IntsAre.int_at i2 _ _ (by simp at h1; simp [h1])
  have R := Ob.RcOp.tuples_ge (A := X.A) (s := s) (e := fun j => decide (ns.getD j 0 = ms.getD j 0)) (r := fun j => decide (ms.getD j 0 ≤ ns.getD j 0)) p1 p2 hu (fun j h1 h2 => by
    obtain ⟨t, et⟩ := at1 j h1
    obtain ⟨t', et'⟩ := at2 j h2
    rw [et, et']
    have z : (ns.getD j 0 == ms.getD j 0) = decide (ns.getD j 0 = ms.getD j 0) := by
      by_cases q : ns.getD j 0 = ms.getD j 0
      · rw [decide_eq_true q]; exact beq_iff_eq.mpr q
      · rw [decide_eq_false q]; exact beq_eq_false_iff_ne.mpr q
    rw [← z]
    exact SeqAt.EqAt.int_int _ _ _ _) (fun j h1 h2 _ => by
    obtain ⟨t, et⟩ := at1 j h1
    obtain ⟨t', et'⟩ := at2 j h2
    rw [et, et']
    exact Ob.RcOp.ge_int _ _ _ _)
  rw [e1, e2] at R
  have z : wpAny (model X.prog X.w) X.A (compareOp .GtE (.ref a) (.ref b)) (EP X pins σ Q) X.xe s := R X.prog X.w X.xe (EP X pins σ Q) ⟨.bl _, H, I, rfl, q⟩
  exact z
/-- one >= other of two pairs of ints -/
def dGeP : O2 := fun x y K => match x, y with | .tup [.int a, .int b], .tup [.int c, .int d] => K (.bl (decide (a > c ∨ (a = c ∧ b ≥ d)))) | _, _ => False
theorem od_geP {X : Cx} (hu : X.A.units + 64 < cLine) : OpD τ X (compareOp .GtE) dGeP := by
  intro Mu pins s σ H x y v u Q I rx ry ⟨dx, dy, K, mu, r1, r2, h, q⟩
  unfold dGeP at h
  split at h
  · rename_i a b c d
    cases r1 with
    | tup a1 a2 =>
      cases r2 with
      | tup b1 b2 =>
        have ea := RA.ints (ns := [a, b]) a2
        have eb := RA.ints (ns := [c, d]) b2
        subst ea eb
        refine op_geT (Nat.lt_of_le_of_lt (Nat.le_add_right _ 64) hu) pins s σ H _ _ v u Q I rx ry ⟨_, _, [a, b], [c, d], rfl, rfl, .of a1, .of b1, ?_⟩
        have e : Ob.lexAt (fun j => decide (([a, b] : List Int).getD j 0 = ([c, d] : List Int).getD j 0)) (fun j => decide (([c, d] : List Int).getD j 0 ≤ ([a, b] : List Int).getD j 0)) (decide (([a, b] : List Int).length ≥ ([c, d] : List Int).length)) 0 (min ([a, b] : List Int).length ([c, d] : List Int).length) = decide (a > c ∨ (a = c ∧ b ≥ d)) := by
          show Ob.lexAt _ _ _ 0 2 = _
          rw [Ob.lexAt_succ, Ob.lexAt_succ, Ob.lexAt_zero]
          simp only [List.getD_cons_zero, List.getD_cons_succ, List.length_cons, List.length_nil, Nat.zero_add, decide_eq_true_eq]
          by_cases h1 : a = c
          · subst h1
            by_cases h2 : b = d
            · subst h2; simp
            · rw [if_pos rfl, if_neg h2]
              congr 1
              simp
          · rw [if_neg h1]
            congr 1
            simp only [h1, false_and, or_false, eq_iff_iff]
            omega
        rw [e]
        exact q _ h _ H (Same.refl H) (.bl _)
  · exact h.elim
/-- a is not b, of two bools -/
def dNotB : O2 := fun x y K => match x, y with | .bl i, .bl j => K (.bl (!decide (i = j))) | _, _ => False
theorem od_notB {X : Cx} : OpD τ X (compareOp .IsNot) dNotB := by
  intro Mu pins s σ H x y v u Q I rx ry ⟨dx, dy, K, mu, r1, r2, h, q⟩
  unfold dNotB at h
  split at h
  · cases r1; cases r2
    exact op_isnot_bl pins s σ H _ _ v u Q I rx ry ⟨_, _, rfl, rfl, q _ h _ H (Same.refl H) (.bl _)⟩
  · exact h.elim
end Gf
namespace Gf
open PySem PySem.Spec PyProof.Rows L2
variable {τ : Tbs}
/-! ### list(range(i, j)) -/
def dListRange (t : DA) : DE := fun δ K => t δ fun ds => match ds with | [.int i, .int j] => (-(2 ^ 62) ≤ i ∧ i < 2 ^ 62 ∧ -(2 ^ 62) ≤ j ∧ j < 2 ^ 62 ∧ (j - i).toNat ≤ 1000000) ∧ K (.lst ((List.range (j - i).toNat).map fun k => D.int (i + (k : Nat)))) | _ => False
theorem items_vals {a c : Int} {n : Nat} {acc : Array Value} (h : ItemsOf (fun i v => ∃ t, v = .int (a + i * c) t) acc n) : Vals ((List.range n).map fun (k : Nat) => V.int (a + (k : Int) * c)) acc.toList := by
  obtain ⟨h1, h2⟩ := h
  have key : ∀ (m : Nat) (l : List Value), l.length = m → (∀ j v, l[j]? = some v → ∃ t, v = Value.int (a + (j : Nat) * c) t) → Vals ((List.range m).map fun (k : Nat) => V.int (a + (k : Int) * c)) l := by
    intro m
    induction m with
    | zero => intro l hl _; rw [List.length_eq_zero_iff.mp hl]; exact .nil
    | succ m ih =>
      intro l hl hj
      obtain ⟨l', v, rfl⟩ : ∃ l' v, l = l' ++ [v] := ⟨l.dropLast, l.getLast (fun z => by rw [z] at hl; cases hl), (List.dropLast_concat_getLast _).symm⟩
      rw [List.length_append, List.length_singleton] at hl
      have hl' : l'.length = m := by omega
      rw [List.range_succ, List.map_append]
      refine Vals.append (ih l' hl' fun j v hv => hj j v (by rw [List.getElem?_append_left (by have := (List.getElem?_eq_some_iff.mp hv).1; omega)]; exact hv)) (.cons ?_ .nil)
      have := hj m v (by rw [List.getElem?_append_right (by omega), hl', Nat.sub_self]; rfl)
      exact this
  exact key n acc.toList (by simpa using h1) fun j v hv => h2 j v (by simpa using hv)
section
variable {X : Cx} {H0 : Hp} {pos : Pos} {e1 e2 : Expr} {tda : DA}
theorem pd_listRange {p p2 q : Pos} (hg : Gl X "list") (hg2 : Gl X "range") (hm : X.mg "list" = none) (hg3 : Gl X "range") (hm2 : X.mg "range" = none) (ha : PDA τ X H0 [e1, e2] tda) (hc : X.calm = true := by rfl)
    (hs : starEach [e1, e2] X.env = (false, eval e1 X.env) :: starEach [e2] X.env := by rfl) (hp1 : (backTo q (starEach [e2] X.env)).any (·.1) = false := by rfl)
    (he : starEach [Expr.Call (.Name "range" p2) [e1, e2] [] q] X.env = (false, eval (Expr.Call (.Name "range" p2) [e1, e2] [] q) X.env) :: starEach [] X.env := by rfl) (hp2 : (backTo pos (starEach [] X.env)).any (·.1) = false := by rfl) :
    PD τ X H0 (.Call (.Name "list" p) [.Call (.Name "range" p2) [e1, e2] [] q] [] pos) (dListRange tda) := by
  refine ⟨fun Mu => ⟨fun pins s σ H Q I ⟨δ, K, ee, h, qq⟩ => ?_⟩⟩
  refine Call_ (ld_blt I hg hm b_list (PyProof.Rows.callWith_type1 (Calls.spliced_cons (Call_ (ld_blt I hg2 hm2 boot_range (PyProof.Rows.callWith_type1 (thn ((ha.pa Mu).run q pins s σ H (fun vs H1 => Same τ H H1 ∧ ∃ i j : Int, vs = [.int i, .int j] ∧ (-(2 ^ 62) ≤ i ∧ i < 2 ^ 62 ∧ -(2 ^ 62) ≤ j ∧ j < 2 ^ 62 ∧ (j - i).toNat ≤ 1000000) ∧ K (.lst ((List.range (j - i).toNat).map fun k => D.int (i + (k : Nat))))) I ⟨δ, _, ee, h, fun ds hd vs H' s' r' => ?_⟩) fun us s1 ⟨vs, H1, I1, r1, sm, i, j, ev, ⟨h1, h2, h3, h4, h5⟩, hk⟩ => ?_) hs hp1)))) he hp2))
  · split at hd
    · cases r' with
      | cons r1 r2 =>
        cases r2 with
        | cons r2 r3 =>
          cases r3
          cases r1
          cases r2
          exact ⟨s', _, _, rfl, hd.1, hd.2⟩
    · exact hd.elim
  · subst ev
    cases r1 with
    | cons r rr =>
      cases rr with
      | cons r' rr =>
        cases rr
        obtain ⟨t, rfl⟩ := r
        obtain ⟨t', rfl⟩ := r'
        refine call_range_2 (Calls.spliced_nil ?_)
        have hn : Builtin.Range.rangeSize i j 1 = (((j - i).toNat : Nat) : Int) := by rw [rangeSize_one]; split <;> omega
        refine call_list_range (I1.ok.hd hc) (IsRange.new ..) (small_one h1 h2 h3 h4) hn (by omega) fun h' tk acc c' k hl hi => ?_
        have I2 : Inv X pins σ H1 { s1 with heap := s1.heap.push { cls := .type "range", data := .fields #[.int i t, .int j t', .int 1 s1.toks] }, toks := s1.toks + 1 } := I1.kept (t' := s1.toks + 1) fun b o e => Heap.get?_push_of_some _ e
        have hv := items_vals hi
        have I3 := I2.laid (t' := tk) (a := (s1.heap.push { cls := .type "range", data := .fields #[.int i t, .int j t', .int 1 s1.toks] }).objs.size) (o := .lst ((List.range (j - i).toNat).map fun (k : Nat) => V.int (i + (k : Int) * 1))) k (Nat.le_refl _)
          ⟨by rw [List.length_map, List.length_range, sizeLine_eq]; omega, acc.toList, c', hv, by rw [Array.toArray_toList]; exact hl⟩
        refine ⟨V.ref _, _, I3, rfl, qq _ hk _ _ (sm.trans (same_new (τ := τ) (I2.hok.fresh (Nat.le_refl _)))) (.lst upd_same ((ee.mu.same sm).fresh (I2.hok.fresh (Nat.le_refl _))) ?_)⟩
        have e1 : ((List.range (j - i).toNat).map fun (k : Nat) => V.int (i + (k : Int) * 1)) = ((List.range (j - i).toNat).map fun (k : Nat) => i + (k : Int)).map V.int := by rw [List.map_map]; refine List.map_congr_left fun z _ => ?_; show V.int (i + (z : Int) * 1) = V.int (i + (z : Int)); rw [Int.mul_one]
        have e2 : ((List.range (j - i).toNat).map fun k => D.int (i + (k : Nat))) = ((List.range (j - i).toNat).map fun (k : Nat) => i + (k : Int)).map D.int := by rw [List.map_map]; rfl
        rw [e1, e2]
        exact RA.ofInts _
end
end Gf
namespace Gf
open PySem PySem.Spec PyProof.Rows L2
local macro_rules | `(tactic| walk_at "rd") => `(tactic| simp only [dSeq, dSet, dVar, dC, dRet, dIfS, dtOr, dtAnd, dtNot, dTest, dNot, dAnd, dOr, dIf, dBin, dUn, dCall, dCallX, dCallV, dCame, dCons, dNil, dCB, dTup, dLst, dDrop, dNext, dPart, dNoPart, dSl, dItems, dName, dgTup, dgCons, dgNil, dYes, dAsg, dPar, dIx, dAdd, dSub, dMul, dFdiv, dMod, dPow, dLt, dLe, dGt, dGe, dGeP, dNeg, dEq, dNe, dIsN, dNotN, dChain, dIsi, dLen, dTupleOf, dListOf, dAll, dAbs, dInt, dMin, dRev, startD, dAt_zero, dAt_succ, isN,
  List.map_cons, List.map_nil, List.cons_append, List.nil_append, List.length_cons, List.length_nil, List.set_cons_zero, List.set_cons_succ, List.replicate_succ, List.replicate_zero, Nat.zero_add, Nat.reduceAdd, Nat.reduceSub, List.append_nil])

def R_look_at_mint (ea : EA) : FR := fun ds EK => ∃ d, ds = [d] ∧ flat d = true ∧ fitB d = false ∧ EK ea.mint
def TX_look_at_mint (ea : EA) (EK : Addr → Prop) : DTS := (dIfS (dtNot (dTest (dCall 1 F_is_fit (dCons (dVar 0) dNil)))) (fun _ _ => EK ea.mint) dNext)
def FX_look_at_mint (ea : EA) : FX := fun ds Q E => F_look_at_mint ds Q ∨ R_look_at_mint ea ds E
theorem rdX_look_at_mint (ea : EA) : ∀ ds EK, ds.length = 1 → R_look_at_mint ea ds EK → TX_look_at_mint ea EK { nx := fun _ => False, rt := fun _ => False } (startD 1 ds) := by
  rintro ds EK _ ⟨d, rfl, hf, hb, hE⟩
  unfold TX_look_at_mint
  walk_at "rd"
  refine ⟨trivial, d, rfl, hf, ?_⟩
  rw [hb]
  simpa using hE
def R_look_at_number (ea : EA) : FR := fun ds EK => ∃ d, ds = [d] ∧ flat d = true ∧ within d 1 (10 ^ 30) = false ∧ EK ea.number
def TX_look_at_number (ea : EA) (EK : Addr → Prop) : DTS := (dIfS (dtNot (dTest (dCall 3 F_is_within (dCons (dVar 0) (dCons (dC (.int 1)) (dCons (dC (.int 1000000000000000000000000000000)) dNil)))))) (fun _ _ => EK ea.number) dNext)
def FX_look_at_number (ea : EA) : FX := fun ds Q E => F_look_at_number ds Q ∨ R_look_at_number ea ds E
theorem rdX_look_at_number (ea : EA) : ∀ ds EK, ds.length = 1 → R_look_at_number ea ds EK → TX_look_at_number ea EK { nx := fun _ => False, rt := fun _ => False } (startD 1 ds) := by
  rintro ds EK _ ⟨d, rfl, hf, hb, hE⟩
  unfold TX_look_at_number
  walk_at "rd"
  refine ⟨trivial, _, _, _, rfl, flat_plain hf, ?_⟩
  have e : within d 1 1000000000000000000000000000000 = false := hb
  rw [e]
  simpa using hE
/-- a mint and n, the first that is none told of -/
def badMN (ea : EA) (d e : D) (EK : Addr → Prop) : Prop := (fitB d = false ∧ EK ea.mint) ∨ (fitB d = true ∧ within e 1 (10 ^ 30) = false ∧ EK ea.number)
def R_is_struck (ea : EA) : FR := fun ds EK => ∃ d e, ds = [d, e] ∧ flat d = true ∧ flat e = true ∧ badMN ea d e EK
def TX_is_struck (ea : EA) (EK : Addr → Prop) : DTS := (dSeq (dDrop (dCallX 1 (FX_look_at_mint ea) EK (dCons (dVar 0) dNil)))
    (dSeq (dDrop (dCallX 1 (FX_look_at_number ea) EK (dCons (dVar 1) dNil)))
    (dRet (dCall 2 F_struck_by (dCons (dVar 0) (dCons (dVar 1) dNil))))))
def FX_is_struck (ea : EA) : FX := fun ds Q E => F_is_struck ds Q ∨ R_is_struck ea ds E
theorem rdX_is_struck (ea : EA) : ∀ ds EK, ds.length = 2 → R_is_struck ea ds EK → TX_is_struck ea EK { nx := fun _ => False, rt := fun _ => False } (startD 2 ds) := by
  rintro ds EK _ ⟨d, e, rfl, hf, he, h⟩
  unfold TX_is_struck
  walk_at "rd"
  rcases h with ⟨hb, hE⟩ | ⟨hb, hw, hE⟩
  · exact ⟨trivial, .inr ⟨d, rfl, hf, hb, hE⟩⟩
  · obtain ⟨m, rfl, ho⟩ := fitB_some hb
    exact ⟨trivial, .inl ⟨m, rfl, ho, trivial, .inr ⟨e, rfl, he, hw, hE⟩⟩⟩
def R_worths (ea : EA) : FR := R_is_struck ea
def TX_worths (ea : EA) (EK : Addr → Prop) : DTS := (dSeq (dDrop (dCallX 1 (FX_look_at_mint ea) EK (dCons (dVar 0) dNil)))
    (dSeq (dDrop (dCallX 1 (FX_look_at_number ea) EK (dCons (dVar 1) dNil)))
    (dRet (dCall 2 F_worths_by (dCons (dVar 0) (dCons (dVar 1) dNil))))))
def FX_worths (ea : EA) : FX := fun ds Q E => F_worths ds Q ∨ R_worths ea ds E
theorem rdX_worths (ea : EA) : ∀ ds EK, ds.length = 2 → R_worths ea ds EK → TX_worths ea EK { nx := fun _ => False, rt := fun _ => False } (startD 2 ds) := by
  rintro ds EK _ ⟨d, e, rfl, hf, he, h⟩
  unfold TX_worths
  walk_at "rd"
  rcases h with ⟨hb, hE⟩ | ⟨hb, hw, hE⟩
  · exact ⟨trivial, .inr ⟨d, rfl, hf, hb, hE⟩⟩
  · obtain ⟨m, rfl, ho⟩ := fitB_some hb
    exact ⟨trivial, .inl ⟨m, rfl, ho, trivial, .inr ⟨e, rfl, he, hw, hE⟩⟩⟩

end Gf
namespace Gf
open PySem PySem.Spec PyProof.Rows L2
local macro_rules | `(tactic| walk_at "rd") => `(tactic| simp only [dSeq, dSet, dVar, dC, dRet, dIfS, dtOr, dtAnd, dtNot, dTest, dNot, dAnd, dOr, dIf, dBin, dUn, dCall, dCallX, dCallV, dCame, dCons, dNil, dCB, dTup, dLst, dDrop, dNext, dPart, dNoPart, dSl, dItems, dName, dgTup, dgCons, dgNil, dYes, dAsg, dPar, dIx, dAdd, dSub, dMul, dFdiv, dMod, dPow, dLt, dLe, dGt, dGe, dGeP, dNeg, dEq, dNe, dIsN, dNotN, dChain, dIsi, dLen, dTupleOf, dListOf, dAll, dAbs, dInt, dMin, dRev, startD, dAt_zero, dAt_succ, isN,
  List.map_cons, List.map_nil, List.cons_append, List.nil_append, List.length_cons, List.length_nil, List.set_cons_zero, List.set_cons_succ, List.replicate_succ, List.replicate_zero, Nat.zero_add, Nat.reduceAdd, Nat.reduceSub, List.append_nil])
local macro_rules | `(tactic| walk_at "sq") => `(tactic| (show dSeq _ _ _ _; refine st_seq ?_))

def R_look_at_amount (ea : EA) : FR := fun ds EK => ∃ d k, ds = [d, .int k] ∧ flat d = true ∧ within d 0 k = false ∧ EK ea.amount
def TX_look_at_amount (ea : EA) (EK : Addr → Prop) : DTS := (dIfS (dtNot (dTest (dCall 3 F_is_within (dCons (dVar 0) (dCons (dC (.int 0)) (dCons (dVar 1) dNil)))))) (fun _ _ => EK ea.amount) dNext)
def FX_look_at_amount (ea : EA) : FX := fun ds Q E => F_look_at_amount ds Q ∨ R_look_at_amount ea ds E
theorem rdX_look_at_amount (ea : EA) : ∀ ds EK, ds.length = 2 → R_look_at_amount ea ds EK → TX_look_at_amount ea EK { nx := fun _ => False, rt := fun _ => False } (startD 2 ds) := by
  rintro ds EK _ ⟨d, k, rfl, hf, hb, hE⟩
  unfold TX_look_at_amount
  walk_at "rd"
  refine ⟨trivial, _, _, _, rfl, flat_plain hf, ?_⟩
  rw [hb]
  simpa using hE
def R_look_at_struck (ea : EA) : FR := fun ds EK => ∃ m n, ds = [mintD m, .int n] ∧ smallM m ∧ struckB m n = false ∧ EK ea.struck
def TX_look_at_struck (ea : EA) (EK : Addr → Prop) : DTS := (dIfS (dtNot (dTest (dCall 2 F_struck_by (dCons (dVar 0) (dCons (dVar 1) dNil))))) (fun _ _ => EK ea.struck) dNext)
def FX_look_at_struck (ea : EA) : FX := fun ds Q E => F_look_at_struck ds Q ∨ R_look_at_struck ea ds E
theorem rdX_look_at_struck (ea : EA) : ∀ ds EK, ds.length = 2 → R_look_at_struck ea ds EK → TX_look_at_struck ea EK { nx := fun _ => False, rt := fun _ => False } (startD 2 ds) := by
  rintro ds EK _ ⟨m, n, rfl, hs, hb, hE⟩
  unfold TX_look_at_struck
  walk_at "rd"
  refine ⟨trivial, m, n, rfl, hs, ?_⟩
  rw [hb]
  simpa using hE
/-- a mint, n and an amount, the first that is none told of; not struck -/
def badAll (ea : EA) (d e x : D) (k : Int) (EK : Addr → Prop) : Prop := (fitB d = false ∧ EK ea.mint) ∨ ∃ m, d = mintD m ∧ okMint m = true ∧ ((within e 1 (10 ^ 30) = false ∧ EK ea.number) ∨ ∃ n, e = .int n ∧ (1 ≤ n ∧ n ≤ 10 ^ 30) ∧
  ((within x 0 k = false ∧ EK ea.amount) ∨ ∃ a, x = .int a ∧ (0 ≤ a ∧ a ≤ k) ∧ struckB m n = false ∧ EK ea.struck))
def R_look_at_all (ea : EA) : FR := fun ds EK => ∃ d e x k, ds = [d, e, x, .int k] ∧ (flat d = true ∧ flat e = true ∧ flat x = true) ∧ badAll ea d e x k EK
def TX_look_at_all (ea : EA) (EK : Addr → Prop) : DTS := (dSeq (dDrop (dCallX 1 (FX_look_at_mint ea) EK (dCons (dVar 0) dNil)))
    (dSeq (dDrop (dCallX 1 (FX_look_at_number ea) EK (dCons (dVar 1) dNil)))
    (dSeq (dDrop (dCallX 2 (FX_look_at_amount ea) EK (dCons (dVar 2) (dCons (dVar 3) dNil))))
    (dDrop (dCallX 2 (FX_look_at_struck ea) EK (dCons (dVar 0) (dCons (dVar 1) dNil)))))))
def FX_look_at_all (ea : EA) : FX := fun ds Q E => F_look_at_all ds Q ∨ R_look_at_all ea ds E
theorem rdX_look_at_all (ea : EA) : ∀ ds EK, ds.length = 4 → R_look_at_all ea ds EK → TX_look_at_all ea EK { nx := fun _ => False, rt := fun _ => False } (startD 4 ds) := by
  rintro ds EK _ ⟨d, e, x, k, rfl, ⟨fd, fe, fx⟩, h⟩
  unfold TX_look_at_all
  walk_at "rd"
  rcases h with ⟨hb, hE⟩ | ⟨m, rfl, hm, ⟨hb, hE⟩ | ⟨n, rfl, hn, ⟨hb, hE⟩ | ⟨a, rfl, ha, hb, hE⟩⟩⟩
  · exact ⟨trivial, .inr ⟨d, rfl, fd, hb, hE⟩⟩
  · exact ⟨trivial, .inl ⟨m, rfl, hm, trivial, .inr ⟨e, rfl, fe, hb, hE⟩⟩⟩
  · exact ⟨trivial, .inl ⟨m, rfl, hm, trivial, .inl ⟨n, rfl, hn, trivial, .inr ⟨x, k, rfl, fx, hb, hE⟩⟩⟩⟩
  · exact ⟨trivial, .inl ⟨m, rfl, hm, trivial, .inl ⟨n, rfl, hn, trivial, .inl ⟨a, k, rfl, ha, trivial, .inr ⟨m, n, rfl, okMint_small hm, hb, hE⟩⟩⟩⟩⟩
def R_change (ea : EA) : FR := fun ds EK => ∃ d e x, ds = [d, e, x] ∧ (flat d = true ∧ flat e = true ∧ flat x = true) ∧ badAll ea d e x (10 ^ 31) EK
def TX_change (ea : EA) (EK : Addr → Prop) : DTS := (dSeq (dDrop (dCallX 4 (FX_look_at_all ea) EK (dCons (dVar 0) (dCons (dVar 1) (dCons (dVar 2) (dCons (dC (.int 10000000000000000000000000000000)) dNil))))))
    (dRet (dCall 2 F_given_by (dCons (dCall 2 F_worths_by (dCons (dVar 0) (dCons (dVar 1) dNil))) (dCons (dVar 2) dNil)))))
def FX_change (ea : EA) : FX := fun ds Q E => F_change ds Q ∨ R_change ea ds E
theorem rdX_change (ea : EA) : ∀ ds EK, ds.length = 3 → R_change ea ds EK → TX_change ea EK { nx := fun _ => False, rt := fun _ => False } (startD 3 ds) := by
  rintro ds EK _ ⟨d, e, x, rfl, hf, h⟩
  unfold TX_change
  walk_at "rd"
  exact ⟨trivial, .inr ⟨d, e, x, _, rfl, hf, h⟩⟩
def R_count_given (ea : EA) : FR := R_change ea
def TX_count_given (ea : EA) (EK : Addr → Prop) : DTS := (dSeq (dDrop (dCallX 4 (FX_look_at_all ea) EK (dCons (dVar 0) (dCons (dVar 1) (dCons (dVar 2) (dCons (dC (.int 10000000000000000000000000000000)) dNil))))))
    (dRet (dCB dSum (dCons (dCall 2 F_given_by (dCons (dCall 2 F_worths_by (dCons (dVar 0) (dCons (dVar 1) dNil))) (dCons (dVar 2) dNil))) dNil))))
def FX_count_given (ea : EA) : FX := fun ds Q E => F_count_given ds Q ∨ R_count_given ea ds E
theorem rdX_count_given (ea : EA) : ∀ ds EK, ds.length = 3 → R_count_given ea ds EK → TX_count_given ea EK { nx := fun _ => False, rt := fun _ => False } (startD 3 ds) := by
  rintro ds EK _ ⟨d, e, x, rfl, hf, h⟩
  unfold TX_count_given
  walk_at "rd"
  exact ⟨trivial, .inr ⟨d, e, x, _, rfl, hf, h⟩⟩
def R_most_given (ea : EA) : FR := R_change ea
def TX_most_given (ea : EA) (EK : Addr → Prop) : DTS := (dSeq (dDrop (dCallX 4 (FX_look_at_all ea) EK (dCons (dVar 0) (dCons (dVar 1) (dCons (dVar 2) (dCons (dC (.int 10000000000000000000000000000000)) dNil))))))
    (dRet (dCall 2 F_most_by (dCons (dCall 2 F_worths_by (dCons (dVar 0) (dCons (dVar 1) dNil))) (dCons (dVar 2) dNil)))))
def FX_most_given (ea : EA) : FX := fun ds Q E => F_most_given ds Q ∨ R_most_given ea ds E
theorem rdX_most_given (ea : EA) : ∀ ds EK, ds.length = 3 → R_most_given ea ds EK → TX_most_given ea EK { nx := fun _ => False, rt := fun _ => False } (startD 3 ds) := by
  rintro ds EK _ ⟨d, e, x, rfl, hf, h⟩
  unfold TX_most_given
  walk_at "rd"
  exact ⟨trivial, .inr ⟨d, e, x, _, rfl, hf, h⟩⟩
def R_fewest (ea : EA) : FR := fun ds EK => ∃ d e x, ds = [d, e, x] ∧ (flat d = true ∧ flat e = true ∧ flat x = true) ∧ badAll ea d e x 2000 EK
def TX_fewest (ea : EA) (EK : Addr → Prop) : DTS := (dSeq (dDrop (dCallX 4 (FX_look_at_all ea) EK (dCons (dVar 0) (dCons (dVar 1) (dCons (dVar 2) (dCons (dC (.int 2000)) dNil))))))
    (dRet (dBin dIx (dCall 2 F_fewest_row (dCons (dCall 2 F_worths_by (dCons (dVar 0) (dCons (dVar 1) dNil))) (dCons (dVar 2) dNil))) (dVar 2))))
def FX_fewest (ea : EA) : FX := fun ds Q E => F_fewest ds Q ∨ R_fewest ea ds E
theorem rdX_fewest (ea : EA) : ∀ ds EK, ds.length = 3 → R_fewest ea ds EK → TX_fewest ea EK { nx := fun _ => False, rt := fun _ => False } (startD 3 ds) := by
  rintro ds EK _ ⟨d, e, x, rfl, hf, h⟩
  unfold TX_fewest
  walk_at "rd"
  exact ⟨trivial, .inr ⟨d, e, x, _, rfl, hf, h⟩⟩

end Gf
namespace Gf
open PySem PySem.Spec PyProof.Rows L2
local macro_rules | `(tactic| walk_at "rd") => `(tactic| simp only [dSeq, dSet, dVar, dC, dRet, dIfS, dtOr, dtAnd, dtNot, dTest, dNot, dAnd, dOr, dIf, dBin, dUn, dCall, dCallX, dCallV, dCame, dCons, dNil, dCB, dTup, dLst, dDrop, dNext, dPart, dNoPart, dSl, dItems, dName, dgTup, dgCons, dgNil, dYes, dAsg, dPar, dIx, dAdd, dSub, dMul, dFdiv, dMod, dPow, dLt, dLe, dGt, dGe, dGeP, dNotB, dNeg, dEq, dNe, dIsN, dNotN, dChain, dIsi, dLen, dTupleOf, dListOf, dAll, dAbs, dInt, dMin, dRev, startD, dAt_zero, dAt_succ, isN,
  List.map_cons, List.map_nil, List.cons_append, List.nil_append, List.length_cons, List.length_nil, List.set_cons_zero, List.set_cons_succ, List.replicate_succ, List.replicate_zero, Nat.zero_add, Nat.reduceAdd, Nat.reduceSub, List.append_nil])
local macro_rules | `(tactic| walk_at "sq") => `(tactic| (show dSeq _ _ _ _; refine st_seq ?_))

def R_look_at_both (ea : EA) : FR := fun ds EK => ∃ d e, ds = [d, e] ∧ flat d = true ∧ flat e = true ∧ badMN ea d e EK
def TX_look_at_both (ea : EA) (EK : Addr → Prop) : DTS := (dSeq (dDrop (dCallX 1 (FX_look_at_mint ea) EK (dCons (dVar 0) dNil)))
    (dDrop (dCallX 1 (FX_look_at_number ea) EK (dCons (dVar 1) dNil))))
def FX_look_at_both (ea : EA) : FX := fun ds Q E => F_look_at_both ds Q ∨ R_look_at_both ea ds E
theorem rdX_look_at_both (ea : EA) : ∀ ds EK, ds.length = 2 → R_look_at_both ea ds EK → TX_look_at_both ea EK { nx := fun _ => False, rt := fun _ => False } (startD 2 ds) := by
  rintro ds EK _ ⟨d, e, rfl, hf, he, h⟩
  unfold TX_look_at_both
  walk_at "rd"
  rcases h with ⟨hb, hE⟩ | ⟨hb, hw, hE⟩
  · exact ⟨trivial, .inr ⟨d, rfl, hf, hb, hE⟩⟩
  · obtain ⟨m, rfl, ho⟩ := fitB_some hb
    exact ⟨trivial, .inl ⟨m, rfl, ho, trivial, .inr ⟨e, rfl, he, hw, hE⟩⟩⟩
def R_is_right (ea : EA) : FR := R_look_at_both ea
def TX_is_right (ea : EA) (EK : Addr → Prop) : DTS := (dSeq (dDrop (dCallX 2 (FX_look_at_both ea) EK (dCons (dVar 0) (dCons (dVar 1) dNil))))
    (dRet (dCall 2 F_right_by (dCons (dVar 0) (dCons (dVar 1) dNil)))))
def FX_is_right (ea : EA) : FX := fun ds Q E => F_is_right ds Q ∨ R_is_right ea ds E
theorem rdX_is_right (ea : EA) : ∀ ds EK, ds.length = 2 → R_is_right ea ds EK → TX_is_right ea EK { nx := fun _ => False, rt := fun _ => False } (startD 2 ds) := by
  rintro ds EK _ ⟨d, e, rfl, h⟩
  unfold TX_is_right
  walk_at "rd"
  exact ⟨trivial, .inr ⟨d, e, rfl, h⟩⟩
def R_least_bad (ea : EA) : FR := fun ds EK => R_look_at_both ea ds EK ∨ ∃ m n, ds = [mintD m, .int n] ∧ okMint m = true ∧ (1 ≤ n ∧ n ≤ 10 ^ 30) ∧ struckB m n = false ∧ EK ea.struck
def TX_least_bad (ea : EA) (EK : Addr → Prop) : DTS := (dSeq (dDrop (dCallX 2 (FX_look_at_both ea) EK (dCons (dVar 0) (dCons (dVar 1) dNil))))
    (dSeq (dDrop (dCallX 2 (FX_look_at_struck ea) EK (dCons (dVar 0) (dCons (dVar 1) dNil))))
    (dSeq (dSet 2 (dCall 1 F_bad_by (dCons (dCall 2 F_worths_by (dCons (dVar 0) (dCons (dVar 1) dNil))) dNil)))
    (dRet (dIf (dTest (dBin dIsN (dVar 2) (dC .non))) (dC .non) (dBin dIx (dVar 2) (dC (.int 0))))))))
def FX_least_bad (ea : EA) : FX := fun ds Q E => F_least_bad ds Q ∨ R_least_bad ea ds E
theorem rdX_least_bad (ea : EA) : ∀ ds EK, ds.length = 2 → R_least_bad ea ds EK → TX_least_bad ea EK { nx := fun _ => False, rt := fun _ => False } (startD 3 ds) := by
  rintro ds EK _ (⟨d, e, rfl, h⟩ | ⟨m, n, rfl, hm, hn, hs, hE⟩)
  · unfold TX_least_bad
    walk_at "rd"
    exact ⟨trivial, .inr ⟨d, e, rfl, h⟩⟩
  · unfold TX_least_bad
    walk_at "rd"
    exact ⟨trivial, .inl ⟨m, n, rfl, hm, hn, trivial, .inr ⟨m, n, rfl, okMint_small hm, hs, hE⟩⟩⟩
def R_worse_by (ea : EA) : FR := R_least_bad ea
def TX_worse_by (ea : EA) (EK : Addr → Prop) : DTS := (dSeq (dDrop (dCallX 2 (FX_look_at_both ea) EK (dCons (dVar 0) (dCons (dVar 1) dNil))))
    (dSeq (dDrop (dCallX 2 (FX_look_at_struck ea) EK (dCons (dVar 0) (dCons (dVar 1) dNil))))
    (dSeq (dSet 2 (dCall 1 F_bad_by (dCons (dCall 2 F_worths_by (dCons (dVar 0) (dCons (dVar 1) dNil))) dNil)))
    (dRet (dIf (dTest (dBin dIsN (dVar 2) (dC .non))) (dC .non) (dBin dIx (dVar 2) (dC (.int 1))))))))
def FX_worse_by (ea : EA) : FX := fun ds Q E => F_worse_by ds Q ∨ R_worse_by ea ds E
theorem rdX_worse_by (ea : EA) : ∀ ds EK, ds.length = 2 → R_worse_by ea ds EK → TX_worse_by ea EK { nx := fun _ => False, rt := fun _ => False } (startD 3 ds) := by
  rintro ds EK _ (⟨d, e, rfl, h⟩ | ⟨m, n, rfl, hm, hn, hs, hE⟩)
  · unfold TX_worse_by
    walk_at "rd"
    exact ⟨trivial, .inr ⟨d, e, rfl, h⟩⟩
  · unfold TX_worse_by
    walk_at "rd"
    exact ⟨trivial, .inl ⟨m, n, rfl, hm, hn, trivial, .inr ⟨m, n, rfl, okMint_small hm, hs, hE⟩⟩⟩

end Gf
namespace Gf
open PySem PySem.Spec PyProof.Rows L2
local macro_rules | `(tactic| walk_at "rd") => `(tactic| simp only [dSeq, dSet, dVar, dC, dRet, dIfS, dtOr, dtAnd, dtNot, dTest, dNot, dAnd, dOr, dIf, dBin, dUn, dCall, dCallX, dCallV, dCame, dCons, dNil, dCB, dTup, dLst, dDrop, dNext, dPart, dNoPart, dSl, dItems, dName, dgTup, dgCons, dgNil, dYes, dAsg, dPar, dIx, dAdd, dSub, dMul, dFdiv, dMod, dPow, dLt, dLe, dGt, dGe, dGeP, dNeg, dEq, dNe, dIsN, dNotN, dChain, dIsi, dLen, dTupleOf, dListOf, dAll, dAbs, dInt, dMin, dRev, startD, dAt_zero, dAt_succ, isN,
  List.map_cons, List.map_nil, List.cons_append, List.nil_append, List.length_cons, List.length_nil, List.set_cons_zero, List.set_cons_succ, List.replicate_succ, List.replicate_zero, Nat.zero_add, Nat.reduceAdd, Nat.reduceSub, List.append_nil])

theorem pick_ok {m : Int} {Q : DK} (h1 : 1 ≤ m) (h2 : m.natAbs.log2 < 9000) (h : ∀ r, 0 ≤ r → r < m → Q (.int r)) : F_pick [.spr, .int m] Q := ⟨⟨h1, h2⟩, h⟩
theorem lcW_free {g : DG} {te : DE} {δ : DSt} {K : DK} (P : D → Prop) : ∀ (xs acc : List D), (∀ x ∈ xs, ∀ Kt : DK, (∀ y, P y → Kt y) → g x δ fun δ2 => te δ2 Kt) → acc.length + xs.length ≤ sizeLine →
    (∀ ys : List D, ys.length = xs.length → (∀ y ∈ ys, P y) → K (.lst (acc ++ ys))) → lcW g dYes te δ K xs acc
  | [], acc, _, _, k => by rw [lcW]; have := k [] rfl (fun _ h => nomatch h); rwa [List.append_nil] at this
  | x :: xs, acc, h, hl, k => by
    rw [lcW]
    rw [List.length_cons] at hl
    have := h x List.mem_cons_self (fun y => acc.length < sizeLine ∧ lcW g dYes te δ K xs (acc ++ [y])) fun y hy => ⟨by omega, lcW_free P xs (acc ++ [y]) (fun z m => h z (List.mem_cons_of_mem _ m)) (by rw [List.length_append, List.length_singleton]; omega) fun ys hy2 hp => by
      have := k (y :: ys) (by rw [List.length_cons, List.length_cons, hy2]) fun z hz => (List.mem_cons.mp hz).elim (fun e => by rw [e]; exact hy) (hp z)
      rwa [List.append_cons] at this⟩
    simpa [dYes] using this
theorem nodup_sub_len {α : Type} [BEq α] [LawfulBEq α] : ∀ (l m : List α), l.Nodup → (∀ x ∈ l, x ∈ m) → l.length ≤ m.length
  | [], _, _, _ => Nat.zero_le _
  | x :: l, m, h, hs => by
    have hx := hs x List.mem_cons_self
    rw [List.nodup_cons] at h
    have := nodup_sub_len l (m.erase x) h.2 fun y hy => (List.mem_erase_of_ne (fun e => h.1 (by rw [← e]; exact hy))).mpr (hs y (List.mem_cons_of_mem _ hy))
    rw [List.length_erase_of_mem hx] at this
    have := List.length_pos_of_mem hx
    rw [List.length_cons]
    omega
theorem coins_of_all : ∀ {ys : List D}, (∀ y ∈ ys, ∃ p, y = pairD p ∧ okCoin p = true) → ∃ ps : Mint, ys = ps.map pairD ∧ ∀ p ∈ ps, okCoin p = true
  | [], _ => ⟨[], rfl, fun _ h => nomatch h⟩
  | y :: ys, h => by
    obtain ⟨p, rfl, hp⟩ := h y List.mem_cons_self
    obtain ⟨ps, rfl, hs⟩ := coins_of_all fun z m => h z (List.mem_cons_of_mem _ m)
    exact ⟨p :: ps, rfl, fun q hq => (List.mem_cons.mp hq).elim (fun e => by rw [e]; exact hp) (hs q)⟩
/-- [v for .. if ..] == [] -/
theorem some_nil {α : Type} (p : α → Bool) (v : α → Int) : ∀ l : List α, eqD (.lst (l.filterMap fun x => if p x = true then some (.int (v x)) else none)) (.lst []) = l.all fun x => !p x
  | [] => by rw [eqD_lst]; exact eqvAll_nil
  | x :: l => by
    rw [List.filterMap_cons, List.all_cons]
    cases h : p x with
    | true => simp only [if_true]; rw [eqD_lst]; simpa using eqvAll_cn _ _
    | false => simp only [Bool.false_eq_true, if_false]; rw [some_nil p v l]; rfl
theorem some_flat {α : Type} (p : α → Bool) (v : α → Int) (l : List α) : cmpb (.lst (l.filterMap fun x => if p x = true then some (D.int (v x)) else none)) := by
  induction l with
  | nil => exact cmp_lst (by rw [List.filterMap_nil, flats]) (by rw [List.filterMap_nil, deeps]; decide)
  | cons x l ih =>
    rw [List.filterMap_cons]
    cases h : p x with
    | false => simpa [h] using ih
    | true =>
      simp only [if_true]
      obtain ⟨h1, h2⟩ := ih
      rw [flat] at h1
      rw [deep] at h2
      refine ⟨by rw [flat, flats, h1]; simp [flat], ?_⟩
      rw [deep, deeps]
      have : deep (.int (v x)) = 0 := by rw [deep]; all_goals exact fun _ z => nomatch z
      omega
theorem ones_nil {α : Type} (p : α → Bool) (l : List α) : eqD (.lst (l.filterMap fun x => if p x = true then some (.int 1) else none)) (.lst []) = l.all fun x => !p x := some_nil p (fun _ => 1) l
theorem ones_flat {α : Type} (p : α → Bool) (l : List α) : cmpb (.lst (l.filterMap fun x => if p x = true then some (D.int 1) else none)) := some_flat p (fun _ => 1) l
theorem cmp_nil : cmpb (.lst []) := cmp_lst (by rw [flats]) (by rw [deeps]; decide)
/-- a comprehension of ones -/
theorem lcW_ones {g : DG} {tt : DT} {δ : DSt} {K : DK} {α : Type} (emb : α → D) (p : α → Bool) (xs : List α) (h : ∀ x ∈ xs, ∀ (Kt : Bool → Prop), Kt (p x) → g (emb x) δ fun δ2 => tt δ2 Kt) (hl : xs.length ≤ 100000) (k : K (.lst (xs.filterMap fun x => if p x = true then some (.int 1) else none))) :
    lcW g tt (dC (.int 1)) δ K (xs.map emb) [] := by
  have hx : ∀ x ∈ xs, ∀ (Kt : DK) (Kf : Prop), (match (if p x = true then some (D.int 1) else none) with | some y => Kt y | none => Kf) → g (emb x) δ fun δ2 => tt δ2 fun b => if b = true then dC (.int 1) δ2 Kt else Kf := fun x m Kt Kf q => by
    refine h x m (fun b => if b = true then Kt (.int 1) else Kf) ?_
    cases e : p x with
    | true => rw [e] at q; simpa using q
    | false => rw [e] at q; simpa using q
  exact lcW_ok emb (fun x => if p x = true then some (.int 1) else none) xs [] hx (by have := small_size hl; simpa using this) (by rw [List.nil_append]; exact k)
def F__law_coin : FD := fun ds Q => ds = [.spr] ∧ ∀ p, okCoin p = true → Q (pairD p)
def T__law_coin : DTS := (dSeq (dIfS (dTest (dBin dEq (dCall 2 F__law_pick (dCons (dVar 0) (dCons (dC (.int 4)) dNil))) (dC (.int 0)))) (dRet (dTup (dCons (dC (.int 0)) (dCons (dBin dAdd (dC (.int 2)) (dCall 2 F__law_pick (dCons (dVar 0) (dCons (dC (.int 8)) dNil)))) dNil)))) dNext)
    (dSeq (dSet 1 (dIf (dTest (dBin dEq (dCall 2 F__law_pick (dCons (dVar 0) (dCons (dC (.int 2)) dNil))) (dC (.int 0)))) (dBin dIx (dLst (dCons (dC (.int 0)) (dCons (dC (.int 0)) (dCons (dC (.int 1)) (dCons (dUn dNeg (dC (.int 1))) dNil))))) (dCall 2 F__law_pick (dCons (dVar 0) (dCons (dC (.int 4)) dNil)))) (dBin dSub (dCall 2 F__law_pick (dCons (dVar 0) (dCons (dC (.int 15)) dNil))) (dC (.int 5)))))
    (dRet (dTup (dCons (dBin dAdd (dC (.int 1)) (dCall 2 F__law_pick (dCons (dVar 0) (dCons (dC (.int 3)) dNil)))) (dCons (dVar 1) dNil))))))
theorem rd__law_coin : ∀ ds Q, ds.length = 1 → F__law_coin ds Q → T__law_coin { nx := fun _ => Q .non, rt := Q } (startD 2 ds) := by
  rintro ds Q _ ⟨rfl, hq⟩
  unfold T__law_coin
  walk_at "rd"
  refine ⟨trivial, pick_ok (by decide) (by decide) fun r h0 h1 => ⟨cmp_int _, cmp_int _, ?_⟩⟩
  rw [eqD_int]
  have z2 : (2 : Nat) ≤ sizeLine := by decide
  have z4 : (4 : Nat) ≤ sizeLine := by decide
  by_cases h : r = 0
  · simp only [h, decide_true, if_true]
    refine ⟨trivial, pick_ok (by decide) (by decide) fun k k0 k1 => ⟨z2, hq (0, 2 + k) ?_⟩⟩
    unfold okCoin
    simp
    omega
  · simp only [h, decide_false, Bool.false_eq_true, if_false]
    have fin : ∀ b : Int, -5 ≤ b → b ≤ 9 → True ∧ F__law_pick [.spr, .int 3] fun y => 2 ≤ sizeLine ∧ Q (.tup [match y with | .int j => .int (1 + j) | y => y, .int b]) := fun b b0 b1 => ⟨trivial, pick_ok (by decide) (by decide) fun k k0 k1 => ⟨z2, hq (1 + k, b) (by
      unfold okCoin
      have : 1 + k > 0 := by omega
      simp [this]
      omega)⟩⟩
    refine ⟨trivial, pick_ok (by decide) (by decide) fun k k0 k1 => ⟨cmp_int _, cmp_int _, ?_⟩⟩
    rw [eqD_int]
    by_cases hk : k = 0
    · simp only [hk, decide_true, if_true]
      refine ⟨z4, trivial, pick_ok (by decide) (by decide) fun i i0 i1 => ?_⟩
      have hi : i = 0 ∨ i = 1 ∨ i = 2 ∨ i = 3 := by omega
      rcases hi with rfl | rfl | rfl | rfl
      · exact fin 0 (by decide) (by decide)
      · exact fin 0 (by decide) (by decide)
      · exact fin 1 (by decide) (by decide)
      · exact fin (-1) (by decide) (by decide)
    · simp only [hk, decide_false, Bool.false_eq_true, if_false]
      exact ⟨trivial, pick_ok (by decide) (by decide) fun i i0 i1 => fin (i - 5) (by omega) (by omega)⟩
def F__law_mint : FD := fun ds Q => ∃ k, ds = [.spr, .int k] ∧ 1 ≤ k ∧ k ≤ 4 ∧ ∀ m, okMint m = true → (m.length : Int) ≤ k → Q (mintD m)
def T__law_mint : DTS := (dRet (dCB dTupleOf (dCons (dUn dSortedSet (dLc (dRange1 (dCons (dBin dAdd (dC (.int 1)) (dCall 2 F__law_pick (dCons (dVar 0) (dCons (dVar 1) dNil)))) dNil)) (dName 2) dYes (dCall 1 F__law_coin (dCons (dVar 0) dNil)) [2])) dNil)))
theorem rd__law_mint : ∀ ds Q, ds.length = 2 → F__law_mint ds Q → T__law_mint { nx := fun _ => Q .non, rt := Q } (startD 3 ds) := by
  rintro ds Q _ ⟨k, rfl, k1, k4, hq⟩
  unfold T__law_mint dLc dRange1
  walk_at "rd"
  simp only [wipeD]
  walk_at "rd"
  refine ⟨trivial, pick_ok k1 (by have : k = 1 ∨ k = 2 ∨ k = 3 ∨ k = 4 := by omega
                                  rcases this with rfl | rfl | rfl | rfl <;> decide) fun r r0 r1 => ⟨⟨by omega, by omega⟩, ?_⟩⟩
  have hlen : ((List.range (1 + r).toNat).map fun i => D.int (0 + ((i : Nat) : Int))).length = (1 + r).toNat := by rw [List.length_map, List.length_range]
  have hs : (1 + r).toNat ≤ sizeLine := Nat.le_trans (by omega) (show (4 : Nat) ≤ sizeLine by decide)
  refine lcW_free (fun y => ∃ p, y = pairD p ∧ okCoin p = true) _ [] (fun x hx Kt hk => ?_) (by rw [hlen, List.length_nil, Nat.zero_add]; exact hs) fun ys hy hp => ?_
  · walk_at "rd"
    exact ⟨trivial, rfl, fun p hp => hk _ ⟨p, rfl, hp⟩⟩
  · rw [hlen] at hy
    obtain ⟨ps, rfl, hps⟩ := coins_of_all hp
    rw [List.length_map] at hy
    unfold dSortedSet seqOf
    refine ⟨ps, rfl, by omega, fun qs q1 q2 => ?_⟩
    have nd : qs.Nodup := q1.imp fun h => h.2
    have hl := nodup_sub_len qs ps nd fun x hx => (q2 x).mp hx
    have hpos : 0 < qs.length := by
      obtain ⟨p, hp⟩ : ∃ p, p ∈ ps := by
        cases ps with
        | nil => simp at hy; omega
        | cons p _ => exact ⟨p, List.mem_cons_self⟩
      exact List.length_pos_of_mem ((q2 p).mpr hp)
    refine hq qs ?_ (by omega)
    unfold okMint
    simp only [Bool.and_eq_true, decide_eq_true_eq]
    exact ⟨⟨⟨by omega, by omega⟩, List.all_eq_true.mpr fun p hp => hps p ((q2 p).mp hp)⟩, (risingP_iff qs).mpr q1⟩
def F__law_worths : FD := fun ds Q => ∃ m n, ds = [mintD m, .int n] ∧ smallM m ∧ Q (intsL (wl m n))
def T__law_worths : DTS := (dRet (dBin dAdd (dLst (dCons (dC (.int 1)) dNil)) (dLc (dItems (dVar 0)) (dgTup 2 (dgCons (dName 2) (dgCons (dName 3) dgNil))) dYes (dBin dAdd (dBin dMul (dVar 2) (dVar 1)) (dVar 3)) [2, 3])))
theorem rd__law_worths : ∀ ds Q, ds.length = 2 → F__law_worths ds Q → T__law_worths { nx := fun _ => Q .non, rt := Q } (startD 4 ds) := by
  rintro ds Q _ ⟨m, n, rfl, ⟨hl, hm⟩, hq⟩
  unfold T__law_worths mintD
  walk_at "rd"
  refine ⟨by decide, ?_⟩
  unfold dLc
  walk_at "rd"
  refine lcW_map pairD (fun p => .int (p.1 * n + p.2)) m (fun p hp Kt hk => ?_) (small_size (by omega)) ?_
  · simp only [wipeD, pairD]
    walk_at "rd"
    refine ⟨trivial, .inl (.inl ?_), hk⟩
    have := hm p hp
    omega
  · walk_at "rd"
    refine ⟨by have := small_size (n := m.length + 1) (by omega); rw [List.length_map]; omega, ?_⟩
    unfold intsL wl at hq
    rw [List.map_cons, List.map_map] at hq
    exact hq
def F__law_is_struck : FD := fun ds Q => ∃ m n, ds = [mintD m, .int n] ∧ smallM m ∧ Q (.bl (struckB m n))
def T__law_is_struck : DTS := (dSeq (dSet 2 (dCall 2 F__law_worths (dCons (dVar 0) (dCons (dVar 1) dNil))))
    (dRet (dBin dEq (dLc (dZip (dCons (dVar 2) (dCons (dSl (dVar 2) (dPart (dC (.int 1))) dNoPart) dNil))) (dgTup 2 (dgCons (dName 3) (dgCons (dName 4) dgNil))) (dTest (dBin dGe (dVar 3) (dVar 4))) (dC (.int 1)) [3, 4]) (dLst dNil))))
theorem rising_all : ∀ ws : List Int, ((ws.zip (ws.drop 1)).all fun p => !decide (p.2 ≤ p.1)) = rising ws
  | [] => rfl
  | [x] => rfl
  | x :: y :: r => by
    have e : ((x :: y :: r).zip ((x :: y :: r).drop 1)) = (x, y) :: ((y :: r).zip ((y :: r).drop 1)) := rfl
    rw [e, List.all_cons, rising_all (y :: r), rising]
    congr 1
    by_cases h : x < y
    · simp [h]
    · simp [h]; omega
theorem rd__law_is_struck : ∀ ds Q, ds.length = 2 → F__law_is_struck ds Q → T__law_is_struck { nx := fun _ => Q .non, rt := Q } (startD 5 ds) := by
  rintro ds Q _ ⟨m, n, rfl, hm, hq⟩
  unfold T__law_is_struck dLc dZip
  walk_at "rd"
  simp only [wipeD]
  walk_at "rd"
  refine ⟨trivial, m, n, rfl, hm, ?_⟩
  unfold intsL
  simp only [cut1, seqOf]
  rw [← List.map_drop, zip_pairs]
  have hz : ((wl m n).zip ((wl m n).drop 1)).length ≤ 100000 := by
    have h1 := hm.1
    have h2 : (wl m n).length = m.length + 1 := by unfold wl; simp
    rw [List.length_zip]
    omega
  refine lcW_ones pairD (fun p => decide (p.2 ≤ p.1)) _ (fun p hp Kt hk => ?_) hz ?_
  · simp only [pairD]
    walk_at "rd"
    exact ⟨trivial, hk⟩
  · refine ⟨by decide, ones_flat _ _, cmp_nil, ?_⟩
    rw [ones_nil, rising_all]
    exact hq
/-- what a calendar tells of n -/
def atL {α : Type} (es gs : List α) (d : α) (n : Int) : α := if n ≤ (es.length : Nat) then es.getD (n - 1).toNat d else gs.getD ((n - 1 - (es.length : Nat)) % (gs.length : Nat)).toNat d
def F__law_at : FD := fun ds Q => ∃ es gs n, ds = [.tup [.tup es, .tup gs], .int n] ∧ 1 ≤ n ∧ gs ≠ [] ∧ Q (atL es gs .non n)
def T__law_at : DTS := (dSeq (dAsg (dVar 0) (dgTup 2 (dgCons (dName 2) (dgCons (dName 3) dgNil))))
    (dSeq (dIfS (dTest (dBin dLe (dVar 1) (dCB dLen (dCons (dVar 2) dNil)))) (dRet (dBin dIx (dVar 2) (dBin dSub (dVar 1) (dC (.int 1))))) dNext)
    (dRet (dBin dIx (dVar 3) (dBin dMod (dBin dSub (dBin dSub (dVar 1) (dC (.int 1))) (dCB dLen (dCons (dVar 2) dNil))) (dCB dLen (dCons (dVar 3) dNil)))))))
theorem atI_getD (xs : List D) (i : Int) (h0 : 0 ≤ i) (h : i.toNat < xs.length) : L2.atI xs i = some (xs.getD i.toNat .non) := by
  have e : i = ((i.toNat : Nat) : Int) := by omega
  have : L2.atI xs ((i.toNat : Nat) : Int) = some (xs.getD i.toNat .non) := atI_nat (by rw [List.getD_eq_getElem?_getD, List.getElem?_eq_getElem h]; rfl)
  rw [← e] at this
  exact this
theorem rd__law_at : ∀ ds Q, ds.length = 2 → F__law_at ds Q → T__law_at { nx := fun _ => Q .non, rt := Q } (startD 4 ds) := by
  rintro ds Q _ ⟨es, gs, n, rfl, hn, hg, hq⟩
  have hgl : 0 < gs.length := List.length_pos_iff.mpr hg
  unfold T__law_at
  walk_at "rd"
  refine ⟨trivial, ?_⟩
  unfold atL at hq
  by_cases h : n ≤ (es.length : Nat)
  · rw [if_pos h] at hq
    simp only [h, decide_true, if_true]
    rw [atI_getD es (n - 1) (by omega) (by omega)]
    exact hq
  · rw [if_neg h] at hq
    simp only [h, decide_false, Bool.false_eq_true, if_false]
    refine ⟨by omega, ?_⟩
    have h1 := Int.emod_nonneg (n - 1 - (es.length : Nat)) (show ((gs.length : Nat) : Int) ≠ 0 by omega)
    have h2 := Int.emod_lt_of_pos (n - 1 - (es.length : Nat)) (show 0 < ((gs.length : Nat) : Int) by omega)
    rw [atI_getD gs _ h1 (by omega)]
    exact hq

end Gf
namespace Gf
open PySem PySem.Spec PyProof.Rows L2
local macro_rules | `(tactic| walk_at "rd") => `(tactic| simp only [dSeq, dSet, dVar, dC, dRet, dIfS, dtOr, dtAnd, dtNot, dTest, dNot, dAnd, dOr, dIf, dBin, dUn, dCall, dCallX, dCallV, dCame, dCons, dNil, dCB, dTup, dLst, dDrop, dNext, dPart, dNoPart, dSl, dItems, dName, dgTup, dgCons, dgNil, dYes, dAsg, dPar, dIx, dAdd, dSub, dMul, dFdiv, dMod, dPow, dLt, dLe, dGt, dGe, dGeP, dNeg, dEq, dNe, dIsN, dNotN, dChain, dIsi, dLen, dTupleOf, dListOf, dAll, dAbs, dInt, dMin, dRev, startD, dAt_zero, dAt_succ, isN,
  List.map_cons, List.map_nil, List.cons_append, List.nil_append, List.length_cons, List.length_nil, List.set_cons_zero, List.set_cons_succ, List.replicate_succ, List.replicate_zero, Nat.zero_add, Nat.reduceAdd, Nat.reduceSub, List.append_nil])
local macro_rules | `(tactic| walk_at "sq") => `(tactic| (show dSeq _ _ _ _; refine st_seq ?_))

theorem eqD_lst0 : eqD (.lst []) (.lst []) = true := by rw [eqD_lst]; exact eqvAll_nil
theorem cmp_str {x : Str} (h : PyData.strOk x = true) : cmpb (.str x) := ⟨by rw [flat]; exact h, by rw [deep]; omega; all_goals exact fun _ z => nomatch z⟩
/-- a comprehension that finds none -/
theorem lcW_none {g : DG} {tt : DT} {te : DE} {δ : DSt} {Kd : DK} {α : Type} (emb : α → D) (xs : List α) (h : ∀ x ∈ xs, ∀ (X : DSt → Prop) (Kf : Prop), Kf → g (emb x) δ fun δ2 => tt δ2 fun b => if b = true then X δ2 else Kf) (hl : xs.length ≤ 100000) (k : Kd (.lst [])) : lcW g tt te δ Kd (xs.map emb) [] := by
  refine lcW_ok emb (fun _ => none) xs [] (fun x m Kt Kf q => h x m (fun δ2 => te δ2 Kt) Kf q) (by have := small_size hl; simpa using this) ?_
  · have : List.filterMap (fun _ => (none : Option D)) xs = [] := by
      induction xs with
      | nil => rfl
      | cons x l ih => rw [List.filterMap_cons]; exact ih (fun y hy => h y (List.mem_cons_of_mem _ hy)) (by rw [List.length_cons] at hl; omega)
    rw [this]; exact k
def shortOk (xs : List D) : Bool := (List.range (xs.length - 1)).all fun k => !shortTest xs k
def F__law_short : FD := fun ds Q => ∃ xs, ds = [.tup xs] ∧ flats xs = true ∧ deeps xs ≤ 20 ∧ xs.length ≤ 1000 ∧ Q (.bl (shortOk xs))
def T__law_short : DTS := (dSeq (dSet 1 (dCB dLen (dCons (dVar 0) dNil)))
    (dSeq (dSet 2 (dLc (dRange2 (dCons (dC (.int 1)) (dCons (dVar 1) dNil))) (dName 3) (dTest (dBin dEq (dBin dMod (dVar 1) (dVar 3)) (dC (.int 0)))) (dVar 3) [3]))
    (dRet (dBin dEq (dLc (dItems (dVar 2)) (dName 3) (dTest (dBin dEq (dBin dMul (dSl (dVar 0) dNoPart (dPart (dVar 3))) (dBin dFdiv (dVar 1) (dVar 3))) (dVar 0))) (dVar 3) [3]) (dLst dNil)))))
theorem range_upI (k : Nat) : upFrom 1 k = (List.range k).map fun i => ((i + 1 : Nat) : Int) := by
  rw [← upFrom_range]
  refine List.map_congr_left fun i _ => ?_
  omega
theorem rd__law_short : ∀ ds Q, ds.length = 1 → F__law_short ds Q → T__law_short { nx := fun _ => Q .non, rt := Q } (startD 4 ds) := by
  rintro ds Q _ ⟨xs, rfl, hf, hd, hl, hq⟩
  unfold T__law_short dLc dRange2
  walk_at "rd"
  simp only [wipeD]
  walk_at "rd"
  refine ⟨⟨by decide, by decide, by omega, by omega⟩, ?_⟩
  rw [range_up, show (((xs.length : Nat) : Int) - 1).toNat = xs.length - 1 by omega, range_upI, List.map_map]
  have em : ∀ j : Nat, (((xs.length : Nat) : Int) % ((j + 1 : Nat) : Int) = 0) ↔ xs.length % (j + 1) = 0 := fun j => by
    have : ((xs.length : Nat) : Int) % ((j + 1 : Nat) : Int) = ((xs.length % (j + 1) : Nat) : Int) := by simp
    rw [this]
    omega
  refine lcW_ok (D.int ∘ fun i : Nat => ((i + 1 : Nat) : Int)) (fun j => if xs.length % (j + 1) = 0 then some (D.int ((j + 1 : Nat) : Int)) else none) _ [] (fun j hj Kt Kf k => ?_) (by rw [List.length_range]; exact Nat.le_trans (by simp; omega) (small_size (Nat.le_refl 100000))) ?_
  · walk_at "rd"
    refine ⟨by show (0 : Int) < ((j + 1 : Nat) : Int); omega, cmp_int _, cmp_int _, ?_⟩
    rw [eqD_int]
    by_cases hm : xs.length % (j + 1) = 0
    · rw [if_pos hm] at k
      show if decide (((xs.length : Nat) : Int) % ((j + 1 : Nat) : Int) = 0) = true then _ else _
      rw [decide_eq_true ((em j).mpr hm), if_pos rfl]
      exact k
    · rw [if_neg hm] at k
      show if decide (((xs.length : Nat) : Int) % ((j + 1 : Nat) : Int) = 0) = true then _ else _
      rw [decide_eq_false (fun z => hm ((em j).mp z)), if_neg Bool.false_ne_true]
      exact k
  · rw [filterMap_ite, List.nil_append]
    refine lcW_ok (fun j : Nat => D.int ((j + 1 : Nat) : Int)) (fun j => if shortTest xs j = true then some (D.int ((j + 1 : Nat) : Int)) else none) _ [] (fun j hj Kt Kf k => ?_) ?_ ?_
    · obtain ⟨h1, hm⟩ := List.mem_filter.mp hj
      have h1 := List.mem_range.mp h1
      have hm : xs.length % (j + 1) = 0 := by simpa using hm
      walk_at "rd"
      rw [cut0 _ _ (by omega)]
      have ej : (((j + 1 : Nat) : Int)).toNat = j + 1 := by omega
      have ed : ((xs.length : Nat) : Int) / ((j + 1 : Nat) : Int) = ((xs.length / (j + 1) : Nat) : Int) := by simp
      have h22 : 2 ≤ xs.length / (j + 1) := by
        rw [Nat.le_div_iff_mul_le (by omega)]
        obtain ⟨c, hc⟩ := Nat.dvd_of_mod_eq_zero hm
        have : 2 ≤ c := by
          rcases Nat.lt_or_ge c 2 with z | z
          · have : c = 0 ∨ c = 1 := by omega
            rcases this with z | z
            · subst z; omega
            · subst z; omega
          · exact z
        calc 2 * (j + 1) ≤ c * (j + 1) := Nat.mul_le_mul_right _ this
          _ = (j + 1) * c := Nat.mul_comm _ _
          _ ≤ xs.length := Nat.le_of_eq hc.symm
      have hub : xs.length / (j + 1) ≤ 1000 := Nat.le_trans (Nat.div_le_self _ _) hl
      have b60 : (1000 : Int) ≤ 10 ^ 60 := by decide +kernel
      refine ⟨⟨by omega, log_ok (by omega) (by omega)⟩, ?_⟩
      rw [ej, ed]
      refine ⟨⟨?_, by omega, by omega, by rw [List.length_take]; omega⟩, ?_⟩
      · intro z
        have := congrArg List.length z
        rw [List.length_take] at this
        simp only [List.length_nil] at this
        omega
      rw [Int.toNat_natCast]
      refine ⟨cmp_tup (flats_rep (flats_take hf _) _) (Nat.le_trans (deeps_rep (deeps_take hd _) _) (by decide)), cmp_tup hf (by omega), ?_⟩
      rw [eqD_tup]
      have et : shortTest xs j = PyData.eqvAll (toPys (List.replicate (xs.length / (j + 1)) (xs.take (j + 1))).flatten) (toPys xs) := by
        unfold shortTest
        rw [hm]; rfl
      rw [← et]
      cases ht : shortTest xs j with
      | true => rw [ht] at k; simpa using k
      | false => rw [ht] at k; simpa using k
    · have := List.length_filter_le (fun j : Nat => decide (xs.length % (j + 1) = 0)) (List.range (xs.length - 1))
      rw [List.length_range] at this
      exact Nat.le_trans (by simp; omega) (small_size (Nat.le_refl 100000))
    · rw [List.nil_append]
      refine ⟨by decide, some_flat _ _ _, cmp_nil, ?_⟩
      rw [some_nil (shortTest xs) (fun j => ((j + 1 : Nat) : Int))]
      have e : ((List.range (xs.length - 1)).filter fun j => decide (xs.length % (j + 1) = 0)).all (fun j => !shortTest xs j) = shortOk xs := by
        unfold shortOk
        rw [List.all_filter]
        congr 1
        funext j
        by_cases hm : xs.length % (j + 1) = 0
        · simp [hm]
        · have : shortTest xs j = false := by unfold shortTest; rw [beq_eq_false_iff_ne.mpr hm]; rfl
          simp [this]
      rw [e]
      exact hq
def F__law_truths_short : FD := fun ds Q => ∃ es gs : List Bool, ds = [truthsD (es, gs)] ∧ es.length ≤ 5000 ∧ gs.length ≤ 1000 ∧ gs ≠ [] ∧ shortOk (gs.map .bl) = true ∧ (∀ x, es.getLast? = some x → gs.getLast? ≠ some x) ∧ Q (.bl true)
def T__law_truths_short : DTS := (dSeq (dIfS (dtOr (dtNot (dTest (dCB dIsi (dCons (dVar 0) (dCons (dC (.raw (.ty "tuple"))) dNil))))) (dTest (dBin dNe (dCB dLen (dCons (dVar 0) dNil)) (dC (.int 2))))) (dRet (dC (.bl false))) dNext)
    (dSeq (dAsg (dVar 0) (dgTup 2 (dgCons (dName 1) (dgCons (dName 2) dgNil))))
    (dSeq (dIfS (dtOr (dtNot (dTest (dCB dIsi (dCons (dVar 1) (dCons (dC (.raw (.ty "tuple"))) dNil))))) (dtOr (dtNot (dTest (dCB dIsi (dCons (dVar 2) (dCons (dC (.raw (.ty "tuple"))) dNil))))) (dTest (dBin dEq (dVar 2) (dTup dNil))))) (dRet (dC (.bl false))) dNext)
    (dSeq (dIfS (dTest (dBin dNe (dLc (dItems (dBin dAdd (dVar 1) (dVar 2))) (dName 3) (dtNot (dTest (dCB dIsi (dCons (dVar 3) (dCons (dC (.raw (.ty "bool"))) dNil))))) (dVar 3) [3]) (dLst dNil))) (dRet (dC (.bl false))) dNext)
    (dRet (dAnd (dCall 1 F__law_short (dCons (dVar 2) dNil)) (dOr (dBin dEq (dVar 1) (dTup dNil)) (dBin dNe (dBin dIx (dVar 1) (dUn dNeg (dC (.int 1)))) (dBin dIx (dVar 2) (dUn dNeg (dC (.int 1))))))))))))
theorem deeps_bl' (l : List Bool) : deeps (l.map .bl) ≤ 20 := Nat.le_trans (deeps_bl l) (by decide)
theorem isTy_tup (xs : List D) : isTy (.tup xs) "tuple" = some true := isTy_tuple (d := .tup xs) (fun z => by cases z)
theorem isTy_blb (b : Bool) : isTy (.bl b) "bool" = some true := isTy_bool (d := .bl b) (fun z => by cases z)
theorem atI_last (xs : List D) (x : D) : L2.atI (xs ++ [x]) (-1) = some x := atI_neg1 _ _ (by simp)
theorem rd__law_truths_short : ∀ ds Q, ds.length = 1 → F__law_truths_short ds Q → T__law_truths_short { nx := fun _ => Q .non, rt := Q } (startD 4 ds) := by
  rintro ds Q _ ⟨es, gs, rfl, hes, hgs, hg, hso, hla, hq⟩
  unfold T__law_truths_short truthsD dLc
  walk_at "rd"
  simp only [wipeD]
  walk_at "rd"
  rw [isTy_tup]
  simp only [Bool.not_true, Bool.false_eq_true, if_false]
  refine ⟨cmp_int _, cmp_int _, ?_⟩
  rw [eqD_int]
  simp only [Int.cast_ofNat_Int, decide_true, Bool.not_true, Bool.false_eq_true, if_false]
  refine ⟨trivial, ?_⟩
  rw [isTy_tup, isTy_tup]
  simp only [Bool.not_true, Bool.false_eq_true, if_false]
  have c0 : cmpb (.tup []) := cmp_tup (by rw [flats]) (by rw [deeps]; decide)
  have cg : cmpb (.tup (gs.map .bl)) := cmp_tup (flats_bl _) (Nat.le_trans (deeps_bl' _) (by decide))
  have ce : cmpb (.tup (es.map .bl)) := cmp_tup (flats_bl _) (Nat.le_trans (deeps_bl' _) (by decide))
  have nn : ∀ l : List Bool, l ≠ [] → eqD (.tup (l.map .bl)) (.tup []) = false := fun l hl => by
    cases l with
    | nil => exact absurd rfl hl
    | cons x r => rw [eqD_tup, List.map_cons]; exact eqvAll_cn _ _
  refine ⟨by decide, cg, c0, ?_⟩
  rw [nn gs hg]
  simp only [Bool.false_eq_true, if_false]
  refine ⟨by rw [List.length_map, List.length_map]; exact small_size (by omega), ?_⟩
  rw [← List.map_append]
  refine lcW_ok D.bl (fun b : Bool => if false = true then some (D.bl b) else none) _ [] (fun b _ Kt Kf k => ?_) (by rw [List.length_append]; exact Nat.le_trans (by simp; omega) (small_size (Nat.le_refl 100000))) ?_
  · walk_at "rd"
    rw [isTy_blb]
    simpa using k
  · have e0 : ((es ++ gs).filterMap fun b : Bool => if false = true then some (D.bl b) else none) = [] := by
      induction es ++ gs with
      | nil => rfl
      | cons x l ih => rw [List.filterMap_cons]; simpa using ih
    rw [e0, List.nil_append]
    refine ⟨by decide, cmp_nil, cmp_nil, ?_⟩
    rw [eqD_lst, eqvAll_nil]
    simp only [Bool.not_true, Bool.false_eq_true, if_false]
    refine ⟨trivial, _, rfl, flats_bl _, deeps_bl' _, by rw [List.length_map]; exact hgs, ?_⟩
    rw [hso]
    refine ⟨by decide, ce, c0, ?_⟩
    rcases List.eq_nil_or_concat es with rfl | ⟨e', x, rfl⟩
    · rw [List.map_nil, eqD_tup, eqvAll_nil]
      exact hq
    · rw [nn _ (by simp)]
      rcases List.eq_nil_or_concat gs with rfl | ⟨g', y, rfl⟩
      · exact absurd rfl hg
      · have hne := hla x (by simp)
        simp only [List.concat_eq_append, List.map_append, List.map_cons, List.map_nil] at hne ⊢
        rw [atI_last, atI_last]
        refine ⟨cmp_bl _, cmp_bl _, ?_⟩
        rw [eqD_bl]
        have : x ≠ y := fun z => hne (by rw [z]; simp)
        rw [beq_eq_false_iff_ne.mpr this]
        exact hq

end Gf
namespace Gf
open PySem PySem.Spec PyProof.Rows L2
local macro_rules | `(tactic| walk_at "rd") => `(tactic| simp only [dSeq, dSet, dVar, dC, dRet, dIfS, dtOr, dtAnd, dtNot, dTest, dNot, dAnd, dOr, dIf, dBin, dUn, dCall, dCallX, dCallV, dCame, dMakeX, dMakeS, dCons, dNil, dCB, dTup, dLst, dDrop, dNext, dPart, dNoPart, dSl, dItems, dName, dgTup, dgCons, dgNil, dYes, dAsg, dPar, dIx, dAdd, dSub, dMul, dFdiv, dMod, dPow, dLt, dLe, dGt, dGe, dGeP, dNotB, dNeg, dEq, dNe, dIsN, dNotN, dChain, dIsi, dLen, dTupleOf, dListOf, dAll, dAbs, dInt, dMin, dRev, startD, dAt_zero, dAt_succ, isN,
  List.map_cons, List.map_nil, List.cons_append, List.nil_append, List.length_cons, List.length_nil, List.set_cons_zero, List.set_cons_succ, List.replicate_succ, List.replicate_zero, Nat.zero_add, Nat.reduceAdd, Nat.reduceSub, List.append_nil])
local macro_rules | `(tactic| walk_at "sq") => `(tactic| (show dSeq _ _ _ _; refine st_seq ?_))

def RC1 (ea : EA) : FR := fun ds EK => ∃ d rest, ds = d :: rest ∧ flat d = true ∧ fitB d = false ∧ EK ea.mint
def RC_is_struck (ea : EA) : FR := R_look_at_both ea
def TC_is_struck (ea : EA) (EK : Addr → Prop) : DTS := (dSeq (dDrop (dCallX 1 (FX_look_at_mint ea) EK (dCons (dVar 0) dNil))) (dSeq (dDrop (dCallX 1 (FX_look_at_number ea) EK (dCons (dVar 1) dNil))) (fun _ _ => False)))
def FC_is_struck (ea : EA) : FX := fun ds _ EK => RC_is_struck ea ds EK
theorem rdC_is_struck (ea : EA) : ∀ ds EK, ds.length = 2 → RC_is_struck ea ds EK → TC_is_struck ea EK { nx := fun _ => False, rt := fun _ => False } (startD 2 ds) := by
  rintro ds EK _ ⟨d, e, rfl, hf, he, h⟩
  unfold TC_is_struck
  walk_at "rd"
  rcases h with ⟨hb, hE⟩ | ⟨hb, hw, hE⟩
  · exact ⟨trivial, .inr ⟨d, rfl, hf, hb, hE⟩⟩
  · obtain ⟨m, rfl, ho⟩ := fitB_some hb
    exact ⟨trivial, .inl ⟨m, rfl, ho, trivial, .inr ⟨e, rfl, he, hw, hE⟩⟩⟩
def RC_worths (ea : EA) : FR := R_look_at_both ea
def TC_worths (ea : EA) (EK : Addr → Prop) : DTS := (dSeq (dDrop (dCallX 1 (FX_look_at_mint ea) EK (dCons (dVar 0) dNil))) (dSeq (dDrop (dCallX 1 (FX_look_at_number ea) EK (dCons (dVar 1) dNil))) (fun _ _ => False)))
def FC_worths (ea : EA) : FX := fun ds _ EK => RC_worths ea ds EK
theorem rdC_worths (ea : EA) : ∀ ds EK, ds.length = 2 → RC_worths ea ds EK → TC_worths ea EK { nx := fun _ => False, rt := fun _ => False } (startD 2 ds) := by
  rintro ds EK _ ⟨d, e, rfl, hf, he, h⟩
  unfold TC_worths
  walk_at "rd"
  rcases h with ⟨hb, hE⟩ | ⟨hb, hw, hE⟩
  · exact ⟨trivial, .inr ⟨d, rfl, hf, hb, hE⟩⟩
  · obtain ⟨m, rfl, ho⟩ := fitB_some hb
    exact ⟨trivial, .inl ⟨m, rfl, ho, trivial, .inr ⟨e, rfl, he, hw, hE⟩⟩⟩
def RC_struck (ea : EA) : FR := RC1 ea
def TC_struck (ea : EA) (EK : Addr → Prop) : DTS := (dSeq (dDrop (dCallX 1 (FX_look_at_mint ea) EK (dCons (dVar 0) dNil))) (fun _ _ => False))
def FC_struck (ea : EA) : FX := fun ds _ EK => RC_struck ea ds EK
theorem rdC_struck (ea : EA) : ∀ ds EK, ds.length = 1 → RC_struck ea ds EK → TC_struck ea EK { nx := fun _ => False, rt := fun _ => False } (startD 2 ds) := by
  rintro ds EK hl ⟨d, rest, rfl, hf, hb, hE⟩
  obtain rfl : rest = [] := by simpa using hl
  unfold TC_struck
  walk_at "rd"
  exact ⟨trivial, .inr ⟨d, rfl, hf, hb, hE⟩⟩
def RC_change (ea : EA) : FR := R_change ea
def TC_change (ea : EA) (EK : Addr → Prop) : DTS := (dSeq (dDrop (dCallX 4 (FX_look_at_all ea) EK (dCons (dVar 0) (dCons (dVar 1) (dCons (dVar 2) (dCons (dC (.int 10000000000000000000000000000000)) dNil)))))) (fun _ _ => False))
def FC_change (ea : EA) : FX := fun ds _ EK => RC_change ea ds EK
theorem rdC_change (ea : EA) : ∀ ds EK, ds.length = 3 → RC_change ea ds EK → TC_change ea EK { nx := fun _ => False, rt := fun _ => False } (startD 3 ds) := by
  rintro ds EK _ ⟨d, e, x, rfl, hf, h⟩
  unfold TC_change
  walk_at "rd"
  exact ⟨trivial, .inr ⟨d, e, x, _, rfl, hf, h⟩⟩
def RC_count_given (ea : EA) : FR := R_change ea
def TC_count_given (ea : EA) (EK : Addr → Prop) : DTS := (dSeq (dDrop (dCallX 4 (FX_look_at_all ea) EK (dCons (dVar 0) (dCons (dVar 1) (dCons (dVar 2) (dCons (dC (.int 10000000000000000000000000000000)) dNil)))))) (fun _ _ => False))
def FC_count_given (ea : EA) : FX := fun ds _ EK => RC_count_given ea ds EK
theorem rdC_count_given (ea : EA) : ∀ ds EK, ds.length = 3 → RC_count_given ea ds EK → TC_count_given ea EK { nx := fun _ => False, rt := fun _ => False } (startD 3 ds) := by
  rintro ds EK _ ⟨d, e, x, rfl, hf, h⟩
  unfold TC_count_given
  walk_at "rd"
  exact ⟨trivial, .inr ⟨d, e, x, _, rfl, hf, h⟩⟩
def RC_most_given (ea : EA) : FR := R_change ea
def TC_most_given (ea : EA) (EK : Addr → Prop) : DTS := (dSeq (dDrop (dCallX 4 (FX_look_at_all ea) EK (dCons (dVar 0) (dCons (dVar 1) (dCons (dVar 2) (dCons (dC (.int 10000000000000000000000000000000)) dNil)))))) (fun _ _ => False))
def FC_most_given (ea : EA) : FX := fun ds _ EK => RC_most_given ea ds EK
theorem rdC_most_given (ea : EA) : ∀ ds EK, ds.length = 3 → RC_most_given ea ds EK → TC_most_given ea EK { nx := fun _ => False, rt := fun _ => False } (startD 3 ds) := by
  rintro ds EK _ ⟨d, e, x, rfl, hf, h⟩
  unfold TC_most_given
  walk_at "rd"
  exact ⟨trivial, .inr ⟨d, e, x, _, rfl, hf, h⟩⟩
def RC_fewest (ea : EA) : FR := R_fewest ea
def TC_fewest (ea : EA) (EK : Addr → Prop) : DTS := (dSeq (dDrop (dCallX 4 (FX_look_at_all ea) EK (dCons (dVar 0) (dCons (dVar 1) (dCons (dVar 2) (dCons (dC (.int 2000)) dNil)))))) (fun _ _ => False))
def FC_fewest (ea : EA) : FX := fun ds _ EK => RC_fewest ea ds EK
theorem rdC_fewest (ea : EA) : ∀ ds EK, ds.length = 3 → RC_fewest ea ds EK → TC_fewest ea EK { nx := fun _ => False, rt := fun _ => False } (startD 3 ds) := by
  rintro ds EK _ ⟨d, e, x, rfl, hf, h⟩
  unfold TC_fewest
  walk_at "rd"
  exact ⟨trivial, .inr ⟨d, e, x, _, rfl, hf, h⟩⟩
def RC_is_right (ea : EA) : FR := R_look_at_both ea
def TC_is_right (ea : EA) (EK : Addr → Prop) : DTS := (dSeq (dDrop (dCallX 2 (FX_look_at_both ea) EK (dCons (dVar 0) (dCons (dVar 1) dNil)))) (fun _ _ => False))
def FC_is_right (ea : EA) : FX := fun ds _ EK => RC_is_right ea ds EK
theorem rdC_is_right (ea : EA) : ∀ ds EK, ds.length = 2 → RC_is_right ea ds EK → TC_is_right ea EK { nx := fun _ => False, rt := fun _ => False } (startD 2 ds) := by
  rintro ds EK _ ⟨d, e, rfl, h⟩
  unfold TC_is_right
  walk_at "rd"
  exact ⟨trivial, .inr ⟨d, e, rfl, h⟩⟩
def RC_least_bad (ea : EA) : FR := R_least_bad ea
def TC_least_bad (ea : EA) (EK : Addr → Prop) : DTS := (dSeq (dDrop (dCallX 2 (FX_look_at_both ea) EK (dCons (dVar 0) (dCons (dVar 1) dNil)))) (dSeq (dDrop (dCallX 2 (FX_look_at_struck ea) EK (dCons (dVar 0) (dCons (dVar 1) dNil)))) (fun _ _ => False)))
def FC_least_bad (ea : EA) : FX := fun ds _ EK => RC_least_bad ea ds EK
theorem rdC_least_bad (ea : EA) : ∀ ds EK, ds.length = 2 → RC_least_bad ea ds EK → TC_least_bad ea EK { nx := fun _ => False, rt := fun _ => False } (startD 3 ds) := by
  rintro ds EK _ (⟨d, e, rfl, h⟩ | ⟨m, n, rfl, hm, hn, hs, hE⟩)
  · unfold TC_least_bad
    walk_at "rd"
    exact ⟨trivial, .inr ⟨d, e, rfl, h⟩⟩
  · unfold TC_least_bad
    walk_at "rd"
    exact ⟨trivial, .inl ⟨m, n, rfl, hm, hn, trivial, .inr ⟨m, n, rfl, okMint_small hm, hs, hE⟩⟩⟩
def RC_worse_by (ea : EA) : FR := R_least_bad ea
def TC_worse_by (ea : EA) (EK : Addr → Prop) : DTS := (dSeq (dDrop (dCallX 2 (FX_look_at_both ea) EK (dCons (dVar 0) (dCons (dVar 1) dNil)))) (dSeq (dDrop (dCallX 2 (FX_look_at_struck ea) EK (dCons (dVar 0) (dCons (dVar 1) dNil)))) (fun _ _ => False)))
def FC_worse_by (ea : EA) : FX := fun ds _ EK => RC_worse_by ea ds EK
theorem rdC_worse_by (ea : EA) : ∀ ds EK, ds.length = 2 → RC_worse_by ea ds EK → TC_worse_by ea EK { nx := fun _ => False, rt := fun _ => False } (startD 3 ds) := by
  rintro ds EK _ (⟨d, e, rfl, h⟩ | ⟨m, n, rfl, hm, hn, hs, hE⟩)
  · unfold TC_worse_by
    walk_at "rd"
    exact ⟨trivial, .inr ⟨d, e, rfl, h⟩⟩
  · unfold TC_worse_by
    walk_at "rd"
    exact ⟨trivial, .inl ⟨m, n, rfl, hm, hn, trivial, .inr ⟨m, n, rfl, okMint_small hm, hs, hE⟩⟩⟩
def RC_right (ea : EA) : FR := RC1 ea
def TC_right (ea : EA) (EK : Addr → Prop) : DTS := (dSeq (dDrop (dCallX 1 (FX_look_at_mint ea) EK (dCons (dVar 0) dNil))) (fun _ _ => False))
def FC_right (ea : EA) : FX := fun ds _ EK => RC_right ea ds EK
theorem rdC_right (ea : EA) : ∀ ds EK, ds.length = 1 → RC_right ea ds EK → TC_right ea EK { nx := fun _ => False, rt := fun _ => False } (startD 1 ds) := by
  rintro ds EK hl ⟨d, rest, rfl, hf, hb, hE⟩
  obtain rfl : rest = [] := by simpa using hl
  unfold TC_right
  walk_at "rd"
  exact ⟨trivial, .inr ⟨d, rfl, hf, hb, hE⟩⟩
def RC_always_right (ea : EA) : FR := RC1 ea
def TC_always_right (ea : EA) (EK : Addr → Prop) : DTS := (dSeq (dDrop (dCallX 1 (FX_look_at_mint ea) EK (dCons (dVar 0) dNil))) (fun _ _ => False))
def FC_always_right (ea : EA) : FX := fun ds _ EK => RC_always_right ea ds EK
theorem rdC_always_right (ea : EA) : ∀ ds EK, ds.length = 1 → RC_always_right ea ds EK → TC_always_right ea EK { nx := fun _ => False, rt := fun _ => False } (startD 1 ds) := by
  rintro ds EK hl ⟨d, rest, rfl, hf, hb, hE⟩
  obtain rfl : rest = [] := by simpa using hl
  unfold TC_always_right
  walk_at "rd"
  exact ⟨trivial, .inr ⟨d, rfl, hf, hb, hE⟩⟩
def RC_bad_form (ea : EA) : FR := RC1 ea
def TC_bad_form (ea : EA) (EK : Addr → Prop) : DTS := (dSeq (dDrop (dCallX 1 (FX_look_at_mint ea) EK (dCons (dVar 0) dNil))) (fun _ _ => False))
def FC_bad_form (ea : EA) : FX := fun ds _ EK => RC_bad_form ea ds EK
theorem rdC_bad_form (ea : EA) : ∀ ds EK, ds.length = 1 → RC_bad_form ea ds EK → TC_bad_form ea EK { nx := fun _ => False, rt := fun _ => False } (startD 1 ds) := by
  rintro ds EK hl ⟨d, rest, rfl, hf, hb, hE⟩
  obtain rfl : rest = [] := by simpa using hl
  unfold TC_bad_form
  walk_at "rd"
  exact ⟨trivial, .inr ⟨d, rfl, hf, hb, hE⟩⟩
def RC_worse_form (ea : EA) : FR := RC1 ea
def TC_worse_form (ea : EA) (EK : Addr → Prop) : DTS := (dSeq (dDrop (dCallX 1 (FX_look_at_mint ea) EK (dCons (dVar 0) dNil))) (fun _ _ => False))
def FC_worse_form (ea : EA) : FX := fun ds _ EK => RC_worse_form ea ds EK
theorem rdC_worse_form (ea : EA) : ∀ ds EK, ds.length = 1 → RC_worse_form ea ds EK → TC_worse_form ea EK { nx := fun _ => False, rt := fun _ => False } (startD 1 ds) := by
  rintro ds EK hl ⟨d, rest, rfl, hf, hb, hE⟩
  obtain rfl : rest = [] := by simpa using hl
  unfold TC_worse_form
  walk_at "rd"
  exact ⟨trivial, .inr ⟨d, rfl, hf, hb, hE⟩⟩
def RC_count_form (ea : EA) : FR := RC1 ea
def TC_count_form (ea : EA) (EK : Addr → Prop) : DTS := (dSeq (dDrop (dCallX 1 (FX_look_at_mint ea) EK (dCons (dVar 0) dNil))) (fun _ _ => False))
def FC_count_form (ea : EA) : FX := fun ds _ EK => RC_count_form ea ds EK
theorem rdC_count_form (ea : EA) : ∀ ds EK, ds.length = 2 → RC_count_form ea ds EK → TC_count_form ea EK { nx := fun _ => False, rt := fun _ => False } (startD 4 ds) := by
  rintro ds EK hl ⟨d, rest, rfl, hf, hb, hE⟩
  obtain ⟨e, rfl⟩ : ∃ e, rest = [e] := by
    match rest, hl with
    | [e], _ => exact ⟨e, rfl⟩
  unfold TC_count_form
  walk_at "rd"
  exact ⟨trivial, .inr ⟨d, rfl, hf, hb, hE⟩⟩
def RC_leavable (ea : EA) : FR := RC1 ea
def TC_leavable (ea : EA) (EK : Addr → Prop) : DTS := (dSeq (dDrop (dCallX 1 (FX_look_at_mint ea) EK (dCons (dVar 0) dNil))) (fun _ _ => False))
def FC_leavable (ea : EA) : FX := fun ds _ EK => RC_leavable ea ds EK
theorem rdC_leavable (ea : EA) : ∀ ds EK, ds.length = 1 → RC_leavable ea ds EK → TC_leavable ea EK { nx := fun _ => False, rt := fun _ => False } (startD 3 ds) := by
  rintro ds EK hl ⟨d, rest, rfl, hf, hb, hE⟩
  obtain rfl : rest = [] := by simpa using hl
  unfold TC_leavable
  walk_at "rd"
  exact ⟨trivial, .inr ⟨d, rfl, hf, hb, hE⟩⟩
def RC_addable (ea : EA) : FR := RC1 ea
def TC_addable (ea : EA) (EK : Addr → Prop) : DTS := (dSeq (dDrop (dCallX 1 (FX_look_at_mint ea) EK (dCons (dVar 0) dNil))) (fun _ _ => False))
def FC_addable (ea : EA) : FX := fun ds _ EK => RC_addable ea ds EK
theorem rdC_addable (ea : EA) : ∀ ds EK, ds.length = 2 → RC_addable ea ds EK → TC_addable ea EK { nx := fun _ => False, rt := fun _ => False } (startD 4 ds) := by
  rintro ds EK hl ⟨d, rest, rfl, hf, hb, hE⟩
  obtain ⟨e, rfl⟩ : ∃ e, rest = [e] := by
    match rest, hl with
    | [e], _ => exact ⟨e, rfl⟩
  unfold TC_addable
  walk_at "rd"
  exact ⟨trivial, .inr ⟨d, rfl, hf, hb, hE⟩⟩
def RC_alike (ea : EA) : FR := RC1 ea
def TC_alike (ea : EA) (EK : Addr → Prop) : DTS := (dSeq (dDrop (dCallX 1 (FX_look_at_mint ea) EK (dCons (dVar 0) dNil))) (fun _ _ => False))
def FC_alike (ea : EA) : FX := fun ds _ EK => RC_alike ea ds EK
theorem rdC_alike (ea : EA) : ∀ ds EK, ds.length = 2 → RC_alike ea ds EK → TC_alike ea EK { nx := fun _ => False, rt := fun _ => False } (startD 2 ds) := by
  rintro ds EK hl ⟨d, rest, rfl, hf, hb, hE⟩
  obtain ⟨e, rfl⟩ : ∃ e, rest = [e] := by
    match rest, hl with
    | [e], _ => exact ⟨e, rfl⟩
  unfold TC_alike
  walk_at "rd"
  exact ⟨trivial, .inr ⟨d, rfl, hf, hb, hE⟩⟩
def RC_parting (ea : EA) : FR := RC1 ea
def TC_parting (ea : EA) (EK : Addr → Prop) : DTS := (dSeq (dDrop (dCallX 1 (FX_look_at_mint ea) EK (dCons (dVar 0) dNil))) (fun _ _ => False))
def FC_parting (ea : EA) : FX := fun ds _ EK => RC_parting ea ds EK
theorem rdC_parting (ea : EA) : ∀ ds EK, ds.length = 2 → RC_parting ea ds EK → TC_parting ea EK { nx := fun _ => False, rt := fun _ => False } (startD 2 ds) := by
  rintro ds EK hl ⟨d, rest, rfl, hf, hb, hE⟩
  obtain ⟨e, rfl⟩ : ∃ e, rest = [e] := by
    match rest, hl with
    | [e], _ => exact ⟨e, rfl⟩
  unfold TC_parting
  walk_at "rd"
  exact ⟨trivial, .inr ⟨d, rfl, hf, hb, hE⟩⟩
def RC_numbers_told (ea : EA) : FR := RC1 ea
def TC_numbers_told (ea : EA) (EK : Addr → Prop) : DTS := (dSeq (dDrop (dCallX 1 (FX_look_at_mint ea) EK (dCons (dVar 0) dNil))) (fun _ _ => False))
def FC_numbers_told (ea : EA) : FX := fun ds _ EK => RC_numbers_told ea ds EK
theorem rdC_numbers_told (ea : EA) : ∀ ds EK, ds.length = 2 → RC_numbers_told ea ds EK → TC_numbers_told ea EK { nx := fun _ => False, rt := fun _ => False } (startD 4 ds) := by
  rintro ds EK hl ⟨d, rest, rfl, hf, hb, hE⟩
  obtain ⟨e, rfl⟩ : ∃ e, rest = [e] := by
    match rest, hl with
    | [e], _ => exact ⟨e, rfl⟩
  unfold TC_numbers_told
  walk_at "rd"
  exact ⟨trivial, .inr ⟨d, rfl, hf, hb, hE⟩⟩
def RC_mint_text (ea : EA) : FR := RC1 ea
def TC_mint_text (ea : EA) (EK : Addr → Prop) : DTS := (dSeq (dDrop (dCallX 1 (FX_look_at_mint ea) EK (dCons (dVar 0) dNil))) (fun _ _ => False))
def FC_mint_text (ea : EA) : FX := fun ds _ EK => RC_mint_text ea ds EK
theorem rdC_mint_text (ea : EA) : ∀ ds EK, ds.length = 1 → RC_mint_text ea ds EK → TC_mint_text ea EK { nx := fun _ => False, rt := fun _ => False } (startD 1 ds) := by
  rintro ds EK hl ⟨d, rest, rfl, hf, hb, hE⟩
  obtain rfl : rest = [] := by simpa using hl
  unfold TC_mint_text
  walk_at "rd"
  exact ⟨trivial, .inr ⟨d, rfl, hf, hb, hE⟩⟩
def F_in_order : FD := fun ds Q => ∃ m : Mint, ds = [.tup (m.map pairD)] ∧ m.length ≤ 100 ∧ m.all okCoin = true ∧ ∀ qs : Mint, qs.Perm m → qs.Pairwise (fun x y => leP x y = true) → Q (mintD qs)
def T_in_order : DTS := (dSeq (dIfS (dtNot (dTest (dCB dAll (dCons (dLc (dItems (dVar 0)) (dName 1) dYes (dCall 1 F_is_coin (dCons (dVar 1) dNil)) [1]) dNil)))) (fun _ _ => False) dNext)
    (dRet (dCB dTupleOf (dCons (dCB dSorted (dCons (dVar 0) dNil)) dNil))))
theorem rd_in_order : ∀ ds Q, ds.length = 1 → F_in_order ds Q → T_in_order { nx := fun _ => Q .non, rt := Q } (startD 2 ds) := by
  rintro ds Q _ ⟨m, rfl, hl, ha, hq⟩
  unfold T_in_order dLc
  walk_at "rd"
  refine lcW_map pairD (fun x => .bl (coinB (pairD x))) m (fun x hx Kt hk => ?_) (small_size (by omega)) ?_
  · simp only [wipeD]
    walk_at "rd"
    exact ⟨trivial, _, rfl, flat_pair x, hk⟩
  · refine ⟨m.map fun x => coinB (pairD x), by rw [List.map_map]; rfl, ?_⟩
    have : (m.map fun x => coinB (pairD x)).all id = true := by
      rw [List.all_map]
      rw [← ha]
      congr 1
      funext p
      exact coinB_pair p
    rw [this]
    simp only [Bool.not_true, Bool.false_eq_true, if_false]
    unfold dSorted seqOf
    exact ⟨m, rfl, by omega, fun qs h1 h2 => hq qs h1 h2⟩
def RT_init (ea : EA) : FR := fun ds EK => ∃ v d e, ds = [.raw v, d, e] ∧ R_least_bad ea [d, e] EK
def FT_init (ea : EA) : FX := fun ds _ EK => RT_init ea ds EK
def TT_init (ea : EA) (EK : Addr → Prop) : DTS := (dSeq (dDrop (dCallX 1 (FX_look_at_mint ea) EK (dCons (dVar 1) dNil))) (dSeq (dDrop (dCallX 1 (FX_look_at_number ea) EK (dCons (dVar 2) dNil))) (dSeq (dDrop (dCallX 2 (FX_look_at_struck ea) EK (dCons (dVar 1) (dCons (dVar 2) dNil)))) (fun _ _ => False))))
theorem rdT_init (ea : EA) : ∀ ds EK, ds.length = 3 → RT_init ea ds EK → TT_init ea EK { nx := fun _ => False, rt := fun _ => False } (startD 3 ds) := by
  rintro ds EK _ ⟨v, d, e, rfl, h⟩
  unfold TT_init
  walk_at "rd"
  rcases h with ⟨d', e', h0, hf, he, h⟩ | ⟨m, n, h0, hm, hn, hs, hE⟩
  · cases h0
    rcases h with ⟨hb, hE⟩ | ⟨hb, hw, hE⟩
    · exact ⟨trivial, .inr ⟨d, rfl, hf, hb, hE⟩⟩
    · obtain ⟨m, rfl, ho⟩ := fitB_some hb
      exact ⟨trivial, .inl ⟨m, rfl, ho, trivial, .inr ⟨e, rfl, he, hw, hE⟩⟩⟩
  · cases h0
    exact ⟨trivial, .inl ⟨m, rfl, hm, trivial, .inl ⟨n, rfl, hn, trivial, .inr ⟨m, n, rfl, okMint_small hm, hs, hE⟩⟩⟩⟩
def FM_init (ea : EA) : FR := fun ds EK => ∃ m : Mint, ds = m.map pairD ∧ m.length ≤ 100 ∧ m.all okCoin = true ∧ (∀ qs : Mint, qs.Perm m → qs.Pairwise (fun x y => leP x y = true) → okMint qs = false) ∧ EK ea.mint
def TM_init (ea : EA) (EK : Addr → Prop) : DTS := (dSeq (dSet 2 (dCall 1 F_in_order (dCons (dVar 1) dNil))) (dSeq (dDrop (dCallX 1 (FX_look_at_mint ea) EK (dCons (dVar 2) dNil))) (fun _ _ => False)))
theorem rdM_init (ea : EA) : ∀ x ds EK, FM_init ea ds EK → TM_init ea EK { nx := fun _ => False, rt := fun _ => False } (startD 3 [.raw (.ref x), .tup ds]) := by
  rintro x ds EK ⟨m, rfl, hl, ha, hn, hE⟩
  unfold TM_init
  walk_at "rd"
  refine ⟨trivial, m, rfl, hl, ha, fun qs h1 h2 => ⟨trivial, .inr ⟨_, rfl, flat_mint qs, ?_, hE⟩⟩⟩
  rw [fitB_tup]
  exact hn qs h1 h2
/-! ### the makers' lambdas, the law's -/
def condM (ds : List D) : Prop := ∃ d, ds = [d] ∧ flat d = true ∧ fitB d = false
def condN (ds : List D) : Prop := ∃ m d, ds = [mintD m, d] ∧ okMint m = true ∧ flat d = true ∧ within d 1 (10 ^ 30) = false
@[irreducible] def flat12 : D := mintD [(1, 0), (2, -1)]
theorem flat12_is : flat12 = mintD [(1, 0), (2, -1)] := by unfold flat12; rfl
theorem flat12_ok : flats [flat12] = true := by rw [flat12_is]; rw [flats, flat_mint, flats]; rfl
theorem flatN : flat D.non = true := by rw [flat]
section
variable {ea : EA} {ds : List D}
theorem h_law_of_mint_0 (hc : condM ds) : (dCallX 2 (FC_is_struck ea) (fun x => x = ea.mint) (dCons (dVar 0) (dCons (dC .non) dNil))) (ds.map some) (fun _ => False) := by
  obtain ⟨d, rfl, hf, hb⟩ := hc
  walk_at "rd"
  exact ⟨trivial, d, _, rfl, hf, flatN, .inl ⟨hb, rfl⟩⟩
theorem h_law_of_mint_1 (hc : condM ds) : (dCallX 2 (FC_worths ea) (fun x => x = ea.mint) (dCons (dVar 0) (dCons (dC .non) dNil))) (ds.map some) (fun _ => False) := by
  obtain ⟨d, rfl, hf, hb⟩ := hc
  walk_at "rd"
  exact ⟨trivial, d, _, rfl, hf, flatN, .inl ⟨hb, rfl⟩⟩
theorem h_law_of_mint_2 (hc : condM ds) : (dCallX 1 (FC_struck ea) (fun x => x = ea.mint) (dCons (dVar 0) dNil)) (ds.map some) (fun _ => False) := by
  obtain ⟨d, rfl, hf, hb⟩ := hc
  walk_at "rd"
  exact ⟨trivial, d, _, rfl, hf, hb, rfl⟩
theorem h_law_of_mint_3 (hc : condM ds) : (dCallX 3 (FC_change ea) (fun x => x = ea.mint) (dCons (dVar 0) (dCons (dC .non) (dCons (dC .non) dNil)))) (ds.map some) (fun _ => False) := by
  obtain ⟨d, rfl, hf, hb⟩ := hc
  walk_at "rd"
  exact ⟨trivial, d, _, _, rfl, ⟨hf, flatN, flatN⟩, .inl ⟨hb, rfl⟩⟩
theorem h_law_of_mint_4 (hc : condM ds) : (dCallX 3 (FC_count_given ea) (fun x => x = ea.mint) (dCons (dVar 0) (dCons (dC .non) (dCons (dC .non) dNil)))) (ds.map some) (fun _ => False) := by
  obtain ⟨d, rfl, hf, hb⟩ := hc
  walk_at "rd"
  exact ⟨trivial, d, _, _, rfl, ⟨hf, flatN, flatN⟩, .inl ⟨hb, rfl⟩⟩
theorem h_law_of_mint_5 (hc : condM ds) : (dCallX 3 (FC_most_given ea) (fun x => x = ea.mint) (dCons (dVar 0) (dCons (dC .non) (dCons (dC .non) dNil)))) (ds.map some) (fun _ => False) := by
  obtain ⟨d, rfl, hf, hb⟩ := hc
  walk_at "rd"
  exact ⟨trivial, d, _, _, rfl, ⟨hf, flatN, flatN⟩, .inl ⟨hb, rfl⟩⟩
theorem h_law_of_mint_6 (hc : condM ds) : (dCallX 3 (FC_fewest ea) (fun x => x = ea.mint) (dCons (dVar 0) (dCons (dC .non) (dCons (dC .non) dNil)))) (ds.map some) (fun _ => False) := by
  obtain ⟨d, rfl, hf, hb⟩ := hc
  walk_at "rd"
  exact ⟨trivial, d, _, _, rfl, ⟨hf, flatN, flatN⟩, .inl ⟨hb, rfl⟩⟩
theorem h_law_of_mint_7 (hc : condM ds) : (dCallX 2 (FC_is_right ea) (fun x => x = ea.mint) (dCons (dVar 0) (dCons (dC .non) dNil))) (ds.map some) (fun _ => False) := by
  obtain ⟨d, rfl, hf, hb⟩ := hc
  walk_at "rd"
  exact ⟨trivial, d, _, rfl, hf, flatN, .inl ⟨hb, rfl⟩⟩
theorem h_law_of_mint_8 (hc : condM ds) : (dCallX 2 (FC_least_bad ea) (fun x => x = ea.mint) (dCons (dVar 0) (dCons (dC .non) dNil))) (ds.map some) (fun _ => False) := by
  obtain ⟨d, rfl, hf, hb⟩ := hc
  walk_at "rd"
  exact ⟨trivial, .inl ⟨d, _, rfl, hf, flatN, .inl ⟨hb, rfl⟩⟩⟩
theorem h_law_of_mint_9 (hc : condM ds) : (dCallX 2 (FC_worse_by ea) (fun x => x = ea.mint) (dCons (dVar 0) (dCons (dC .non) dNil))) (ds.map some) (fun _ => False) := by
  obtain ⟨d, rfl, hf, hb⟩ := hc
  walk_at "rd"
  exact ⟨trivial, .inl ⟨d, _, rfl, hf, flatN, .inl ⟨hb, rfl⟩⟩⟩
theorem h_law_of_mint_10 (hc : condM ds) : (dCallX 1 (FC_right ea) (fun x => x = ea.mint) (dCons (dVar 0) dNil)) (ds.map some) (fun _ => False) := by
  obtain ⟨d, rfl, hf, hb⟩ := hc
  walk_at "rd"
  exact ⟨trivial, d, _, rfl, hf, hb, rfl⟩
theorem h_law_of_mint_11 (hc : condM ds) : (dCallX 1 (FC_always_right ea) (fun x => x = ea.mint) (dCons (dVar 0) dNil)) (ds.map some) (fun _ => False) := by
  obtain ⟨d, rfl, hf, hb⟩ := hc
  walk_at "rd"
  exact ⟨trivial, d, _, rfl, hf, hb, rfl⟩
theorem h_law_of_mint_12 (hc : condM ds) : (dCallX 1 (FC_bad_form ea) (fun x => x = ea.mint) (dCons (dVar 0) dNil)) (ds.map some) (fun _ => False) := by
  obtain ⟨d, rfl, hf, hb⟩ := hc
  walk_at "rd"
  exact ⟨trivial, d, _, rfl, hf, hb, rfl⟩
theorem h_law_of_mint_13 (hc : condM ds) : (dCallX 1 (FC_worse_form ea) (fun x => x = ea.mint) (dCons (dVar 0) dNil)) (ds.map some) (fun _ => False) := by
  obtain ⟨d, rfl, hf, hb⟩ := hc
  walk_at "rd"
  exact ⟨trivial, d, _, rfl, hf, hb, rfl⟩
theorem h_law_of_mint_14 (hc : condM ds) : (dCallX 2 (FC_count_form ea) (fun x => x = ea.mint) (dCons (dVar 0) (dCons (dC .non) dNil))) (ds.map some) (fun _ => False) := by
  obtain ⟨d, rfl, hf, hb⟩ := hc
  walk_at "rd"
  exact ⟨trivial, d, _, rfl, hf, hb, rfl⟩
theorem h_law_of_mint_15 (hc : condM ds) : (dCallX 1 (FC_leavable ea) (fun x => x = ea.mint) (dCons (dVar 0) dNil)) (ds.map some) (fun _ => False) := by
  obtain ⟨d, rfl, hf, hb⟩ := hc
  walk_at "rd"
  exact ⟨trivial, d, _, rfl, hf, hb, rfl⟩
theorem h_law_of_mint_16 (hc : condM ds) : (dCallX 2 (FC_addable ea) (fun x => x = ea.mint) (dCons (dVar 0) (dCons (dC .non) dNil))) (ds.map some) (fun _ => False) := by
  obtain ⟨d, rfl, hf, hb⟩ := hc
  walk_at "rd"
  exact ⟨trivial, d, _, rfl, hf, hb, rfl⟩
theorem h_law_of_mint_17 (hc : condM ds) : (dCallX 2 (FC_alike ea) (fun x => x = ea.mint) (dCons (dVar 0) (dCons (dC .non) dNil))) (ds.map some) (fun _ => False) := by
  obtain ⟨d, rfl, hf, hb⟩ := hc
  walk_at "rd"
  exact ⟨trivial, d, _, rfl, hf, hb, rfl⟩
theorem h_law_of_mint_18 (hc : condM ds) : (dCallX 2 (FC_parting ea) (fun x => x = ea.mint) (dCons (dVar 0) (dCons (dC .non) dNil))) (ds.map some) (fun _ => False) := by
  obtain ⟨d, rfl, hf, hb⟩ := hc
  walk_at "rd"
  exact ⟨trivial, d, _, rfl, hf, hb, rfl⟩
theorem h_law_of_mint_19 (hc : condM ds) : (dCallX 2 (FC_numbers_told ea) (fun x => x = ea.mint) (dCons (dVar 0) (dCons (dC .non) dNil))) (ds.map some) (fun _ => False) := by
  obtain ⟨d, rfl, hf, hb⟩ := hc
  walk_at "rd"
  exact ⟨trivial, d, _, rfl, hf, hb, rfl⟩
theorem h_law_of_mint_20 (hc : condM ds) : (dCallX 1 (FC_mint_text ea) (fun x => x = ea.mint) (dCons (dVar 0) dNil)) (ds.map some) (fun _ => False) := by
  obtain ⟨d, rfl, hf, hb⟩ := hc
  walk_at "rd"
  exact ⟨trivial, d, _, rfl, hf, hb, rfl⟩
theorem h_law_of_mint_21 (hc : condM ds) : (dMakeX 2 (FT_init ea) (fun x => x = ea.mint) (dCons (dVar 0) (dCons (dC .non) dNil))) (ds.map some) (fun _ => False) := by
  obtain ⟨d, rfl, hf, hb⟩ := hc
  walk_at "rd"
  exact ⟨trivial, fun x => ⟨_, d, _, rfl, .inl ⟨d, _, rfl, hf, flatN, .inl ⟨hb, rfl⟩⟩⟩⟩
theorem h_law_of_number_0 (hc : condN ds) : (dCallX 3 (FC_change ea) (fun x => x = ea.number) (dCons (dVar 0) (dCons (dVar 1) (dCons (dC .non) dNil)))) (ds.map some) (fun _ => False) := by
  obtain ⟨m, d, rfl, hm, hf, hb⟩ := hc
  walk_at "rd"
  exact ⟨trivial, mintD m, d, _, rfl, ⟨flat_mint m, hf, flatN⟩, .inr ⟨m, rfl, hm, .inl ⟨hb, rfl⟩⟩⟩
theorem h_law_of_number_1 (hc : condN ds) : (dCallX 3 (FC_count_given ea) (fun x => x = ea.number) (dCons (dVar 0) (dCons (dVar 1) (dCons (dC .non) dNil)))) (ds.map some) (fun _ => False) := by
  obtain ⟨m, d, rfl, hm, hf, hb⟩ := hc
  walk_at "rd"
  exact ⟨trivial, mintD m, d, _, rfl, ⟨flat_mint m, hf, flatN⟩, .inr ⟨m, rfl, hm, .inl ⟨hb, rfl⟩⟩⟩
theorem h_law_of_number_2 (hc : condN ds) : (dCallX 3 (FC_most_given ea) (fun x => x = ea.number) (dCons (dVar 0) (dCons (dVar 1) (dCons (dC .non) dNil)))) (ds.map some) (fun _ => False) := by
  obtain ⟨m, d, rfl, hm, hf, hb⟩ := hc
  walk_at "rd"
  exact ⟨trivial, mintD m, d, _, rfl, ⟨flat_mint m, hf, flatN⟩, .inr ⟨m, rfl, hm, .inl ⟨hb, rfl⟩⟩⟩
theorem h_law_of_number_3 (hc : condN ds) : (dCallX 3 (FC_fewest ea) (fun x => x = ea.number) (dCons (dVar 0) (dCons (dVar 1) (dCons (dC .non) dNil)))) (ds.map some) (fun _ => False) := by
  obtain ⟨m, d, rfl, hm, hf, hb⟩ := hc
  walk_at "rd"
  exact ⟨trivial, mintD m, d, _, rfl, ⟨flat_mint m, hf, flatN⟩, .inr ⟨m, rfl, hm, .inl ⟨hb, rfl⟩⟩⟩
theorem h_law_of_number_4 (hc : condN ds) : (dCallX 2 (FC_is_right ea) (fun x => x = ea.number) (dCons (dVar 0) (dCons (dVar 1) dNil))) (ds.map some) (fun _ => False) := by
  obtain ⟨m, d, rfl, hm, hf, hb⟩ := hc
  walk_at "rd"
  exact ⟨trivial, mintD m, d, rfl, flat_mint m, hf, .inr ⟨by rw [fitB_tup]; exact hm, hb, rfl⟩⟩
theorem h_law_of_number_5 (hc : condN ds) : (dCallX 2 (FC_least_bad ea) (fun x => x = ea.number) (dCons (dVar 0) (dCons (dVar 1) dNil))) (ds.map some) (fun _ => False) := by
  obtain ⟨m, d, rfl, hm, hf, hb⟩ := hc
  walk_at "rd"
  exact ⟨trivial, .inl ⟨mintD m, d, rfl, flat_mint m, hf, .inr ⟨by rw [fitB_tup]; exact hm, hb, rfl⟩⟩⟩
theorem h_law_of_number_6 (hc : condN ds) : (dCallX 2 (FC_worse_by ea) (fun x => x = ea.number) (dCons (dVar 0) (dCons (dVar 1) dNil))) (ds.map some) (fun _ => False) := by
  obtain ⟨m, d, rfl, hm, hf, hb⟩ := hc
  walk_at "rd"
  exact ⟨trivial, .inl ⟨mintD m, d, rfl, flat_mint m, hf, .inr ⟨by rw [fitB_tup]; exact hm, hb, rfl⟩⟩⟩
theorem h_law_of_number_7 (hc : condN ds) : (dCallX 2 (FC_is_struck ea) (fun x => x = ea.number) (dCons (dVar 0) (dCons (dVar 1) dNil))) (ds.map some) (fun _ => False) := by
  obtain ⟨m, d, rfl, hm, hf, hb⟩ := hc
  walk_at "rd"
  exact ⟨trivial, mintD m, d, rfl, flat_mint m, hf, .inr ⟨by rw [fitB_tup]; exact hm, hb, rfl⟩⟩
theorem h_law_of_number_8 (hc : condN ds) : (dCallX 2 (FC_worths ea) (fun x => x = ea.number) (dCons (dVar 0) (dCons (dVar 1) dNil))) (ds.map some) (fun _ => False) := by
  obtain ⟨m, d, rfl, hm, hf, hb⟩ := hc
  walk_at "rd"
  exact ⟨trivial, mintD m, d, rfl, flat_mint m, hf, .inr ⟨by rw [fitB_tup]; exact hm, hb, rfl⟩⟩
theorem h_law_of_number_9 (hc : condN ds) : (dMakeX 2 (FT_init ea) (fun x => x = ea.number) (dCons (dVar 0) (dCons (dVar 1) dNil))) (ds.map some) (fun _ => False) := by
  obtain ⟨m, d, rfl, hm, hf, hb⟩ := hc
  walk_at "rd"
  exact ⟨trivial, fun x => ⟨_, mintD m, d, rfl, .inl ⟨mintD m, d, rfl, flat_mint m, hf, .inr ⟨by rw [fitB_tup]; exact hm, hb, rfl⟩⟩⟩⟩
theorem h12_0 : (dCallX 3 (FC_change ea) (fun x => x = ea.struck) (dCons (dVar 0) (dCons (dC (.int 1)) (dCons (dC (.int 0)) dNil)))) ([flat12].map some) (fun _ => False) := by
  walk_at "rd"
  exact ⟨trivial, _, _, _, rfl, ⟨by rw [flat12_is]; exact flat_mint _, flat_int _, flat_int _⟩, .inr ⟨[(1, 0), (2, -1)], flat12_is, by decide, .inr ⟨1, rfl, by decide, .inr ⟨0, rfl, by decide, by decide, rfl⟩⟩⟩⟩
theorem h12_1 : (dCallX 3 (FC_count_given ea) (fun x => x = ea.struck) (dCons (dVar 0) (dCons (dC (.int 1)) (dCons (dC (.int 0)) dNil)))) ([flat12].map some) (fun _ => False) := by
  walk_at "rd"
  exact ⟨trivial, _, _, _, rfl, ⟨by rw [flat12_is]; exact flat_mint _, flat_int _, flat_int _⟩, .inr ⟨[(1, 0), (2, -1)], flat12_is, by decide, .inr ⟨1, rfl, by decide, .inr ⟨0, rfl, by decide, by decide, rfl⟩⟩⟩⟩
theorem h12_2 : (dCallX 3 (FC_most_given ea) (fun x => x = ea.struck) (dCons (dVar 0) (dCons (dC (.int 1)) (dCons (dC (.int 0)) dNil)))) ([flat12].map some) (fun _ => False) := by
  walk_at "rd"
  exact ⟨trivial, _, _, _, rfl, ⟨by rw [flat12_is]; exact flat_mint _, flat_int _, flat_int _⟩, .inr ⟨[(1, 0), (2, -1)], flat12_is, by decide, .inr ⟨1, rfl, by decide, .inr ⟨0, rfl, by decide, by decide, rfl⟩⟩⟩⟩
theorem h12_3 : (dCallX 3 (FC_fewest ea) (fun x => x = ea.struck) (dCons (dVar 0) (dCons (dC (.int 1)) (dCons (dC (.int 0)) dNil)))) ([flat12].map some) (fun _ => False) := by
  walk_at "rd"
  exact ⟨trivial, _, _, _, rfl, ⟨by rw [flat12_is]; exact flat_mint _, flat_int _, flat_int _⟩, .inr ⟨[(1, 0), (2, -1)], flat12_is, by decide, .inr ⟨1, rfl, by decide, .inr ⟨0, rfl, by decide, by decide, rfl⟩⟩⟩⟩
theorem h12_4 : (dCallX 2 (FC_least_bad ea) (fun x => x = ea.struck) (dCons (dVar 0) (dCons (dC (.int 1)) dNil))) ([flat12].map some) (fun _ => False) := by
  walk_at "rd"
  exact ⟨trivial, .inr ⟨[(1, 0), (2, -1)], 1, by rw [flat12_is], by decide, by decide, by decide, rfl⟩⟩
theorem h12_5 : (dCallX 2 (FC_worse_by ea) (fun x => x = ea.struck) (dCons (dVar 0) (dCons (dC (.int 1)) dNil))) ([flat12].map some) (fun _ => False) := by
  walk_at "rd"
  exact ⟨trivial, .inr ⟨[(1, 0), (2, -1)], 1, by rw [flat12_is], by decide, by decide, by decide, rfl⟩⟩
theorem h12_6 : (dMakeX 2 (FT_init ea) (fun x => x = ea.struck) (dCons (dVar 0) (dCons (dC (.int 1)) dNil))) ([flat12].map some) (fun _ => False) := by
  walk_at "rd"
  exact ⟨trivial, fun x => ⟨_, _, _, rfl, .inr ⟨[(1, 0), (2, -1)], 1, by rw [flat12_is], by decide, by decide, by decide, rfl⟩⟩⟩
end
/-! ### the law's helper: all say it -/
def T__law_all_say (Fc : FD) : DTS := (dRet (dBin dEq (dLc (dItems (dVar 0)) (dName 2) (dTest (dBin dNe (dCall 1 Fc (dCons (dVar 2) dNil)) (dVar 1))) (dC (.int 1)) [2]) (dLst dNil)))
theorem rd__law_all_say {τ : Tbs} {P : Program} {w : World} {K : PySem.W.Frag} {mg : Str → Option Value} {base : Heap} {ea : EA} {k : Nat} : ∀ ds Q, ds.length = 2 → FAllSay τ P w K mg base ea k ds Q → T__law_all_say (FCame τ P w K mg base ea k) { nx := fun _ => Q .non, rt := Q } (startD 3 ds) := by
  rintro ds Q _ ⟨ls, W, rfl, hl, hW, hS, hq⟩
  unfold T__law_all_say dLc
  walk_at "rd"
  rw [show ls = ls.map id by simp]
  refine lcW_none id ls (fun l hm X Kf kf => ?_) (by omega) ?_
  · simp only [wipeD]
    walk_at "rd"
    refine ⟨trivial, l, W, rfl, hS l hm, cmp_str hW, cmp_str hW, ?_⟩
    rw [eqD_strs]
    simpa using kf
  · refine ⟨small_size (by decide), cmp_nil, cmp_nil, ?_⟩
    rw [eqD_lst0]
    exact hq
end Gf
namespace Gf
open PySem PySem.Spec PyProof.Rows L2
local macro_rules | `(tactic| walk_at "rd") => `(tactic| simp only [dSeq, dSet, dVar, dC, dRet, dIfS, dtOr, dtAnd, dtNot, dTest, dNot, dAnd, dOr, dIf, dBin, dUn, dCall, dCallX, dCallV, dCame, dMakeX, dMakeS, dCons, dNil, dCB, dTup, dLst, dDrop, dNext, dPart, dNoPart, dSl, dItems, dName, dgTup, dgCons, dgNil, dYes, dAsg, dPar, dIx, dAdd, dSub, dMul, dFdiv, dMod, dPow, dLt, dLe, dGt, dGe, dGeP, dNotB, dNeg, dEq, dNe, dIsN, dNotN, dChain, dIsi, dLen, dTupleOf, dListOf, dAll, dAbs, dInt, dMin, dRev, startD, dAt_zero, dAt_succ, isN,
  List.map_cons, List.map_nil, List.cons_append, List.nil_append, List.length_cons, List.length_nil, List.set_cons_zero, List.set_cons_succ, List.replicate_succ, List.replicate_zero, Nat.zero_add, Nat.reduceAdd, Nat.reduceSub, List.append_nil])
local macro_rules | `(tactic| walk_at "sq") => `(tactic| (show dSeq _ _ _ _; refine st_seq ?_))

def F__law_of_mint (τ : Tbs) (P : Program) (w : World) (K : PySem.W.Frag) (mg : Str → Option Value) (base : Heap) (ea : EA) : FD := FMk τ P w K mg base ea 8 condM "mint"
def F__law_of_number (τ : Tbs) (P : Program) (w : World) (K : PySem.W.Frag) (mg : Str → Option Value) (base : Heap) (ea : EA) : FD := FMk τ P w K mg base ea 8 condN "number"
def F__law_all_say (τ : Tbs) (P : Program) (w : World) (K : PySem.W.Frag) (mg : Str → Option Value) (base : Heap) (ea : EA) : FD := FAllSay τ P w K mg base ea 8
def G12 (τ : Tbs) (P : Program) (w : World) (K : PySem.W.Frag) (mg : Str → Option Value) (base : Heap) (ea : EA) (cl : List (Str × Addr)) : D → Prop := Gd τ P w K mg base ea 8 ["flat"] [flat12] "struck" cl
def T_law_0 (τ : Tbs) (P : Program) (w : World) (mg : Str → Option Value) (base : Heap) (K : PySem.W.Frag) (ea : EA) (cl : List (Str × Addr)) (a : Addr) (ns : List Int) : DTS := (dSet 2 (dCallS 0 1 a))
def T_law_1 (τ : Tbs) (P : Program) (w : World) (mg : Str → Option Value) (base : Heap) (K : PySem.W.Frag) (ea : EA) (cl : List (Str × Addr)) (a : Addr) (ns : List Int) : DTS := (dSet 3 (dCall 2 F__law_mint (dCons (dVar 2) (dCons (dC (.int 4)) dNil))))
def T_law_2 (τ : Tbs) (P : Program) (w : World) (mg : Str → Option Value) (base : Heap) (K : PySem.W.Frag) (ea : EA) (cl : List (Str × Addr)) (a : Addr) (ns : List Int) : DTS := (dSet 4 (dLst (dCons (dC .non) (dCons (dTup dNil) (dCons (dCB dListOf (dCons (dVar 3) dNil)) (dCons (dBin dIx (dVar 3) (dC (.int 0))) (dCons (dBin dAdd (dVar 3) (dVar 3)) (dCons (dC (.str "mint")) (dCons (dTup (dCons (dTup (dCons (dC (.int 0)) (dCons (dC (.int 1)) dNil))) dNil)) (dCons (dTup (dCons (dTup (dCons (dC (.int 1)) (dCons (dC (.int 10)) dNil))) dNil)) (dCons (dTup (dCons (dTup (dCons (dC (.int 1)) (dCons (dUn dNeg (dC (.int 6))) dNil))) dNil)) (dCons (dTup (dCons (dTup (dCons (dC (.int 4)) (dCons (dC (.int 0)) dNil))) dNil)) dNil))))))))))))
def T_law_3 (τ : Tbs) (P : Program) (w : World) (mg : Str → Option Value) (base : Heap) (K : PySem.W.Frag) (ea : EA) (cl : List (Str × Addr)) (a : Addr) (ns : List Int) : DTS := (dSet 4 (dBin dAdd (dVar 4) (dLst (dCons (dTup (dCons (dTup (dCons (dC (.int 0)) (dCons (dC (.int 2)) dNil))) (dCons (dTup (dCons (dC (.int 0)) (dCons (dC (.int 3)) dNil))) (dCons (dTup (dCons (dC (.int 1)) (dCons (dC (.int 0)) dNil))) (dCons (dTup (dCons (dC (.int 2)) (dCons (dC (.int 0)) dNil))) (dCons (dTup (dCons (dC (.int 3)) (dCons (dC (.int 0)) dNil))) dNil)))))) (dCons (dTup (dCons (dTup (dCons (dC (.int 1)) (dCons (dC (.int 1)) dNil))) (dCons (dTup (dCons (dC (.int 1)) (dCons (dC (.int 0)) dNil))) dNil))) (dCons (dTup (dCons (dTup (dCons (dC (.bl true)) (dCons (dC (.int 0)) dNil))) dNil)) (dCons (dTup (dCons (dTup (dCons (dC (.int 1)) dNil)) dNil)) (dCons (dTup (dCons (dC .non) dNil)) dNil))))))))
def T_law_4 (τ : Tbs) (P : Program) (w : World) (mg : Str → Option Value) (base : Heap) (K : PySem.W.Frag) (ea : EA) (cl : List (Str × Addr)) (a : Addr) (ns : List Int) : DTS := (dRet (dC (.bl false)))
def T_law_5 (τ : Tbs) (P : Program) (w : World) (mg : Str → Option Value) (base : Heap) (K : PySem.W.Frag) (ea : EA) (cl : List (Str × Addr)) (a : Addr) (ns : List Int) : DTS := (dIfS (dtNot (dTest (dCall 2 (F__law_all_say τ P w K mg base ea) (dCons (dCall 1 (F__law_of_mint τ P w K mg base ea) (dCons (dVar 5) dNil)) (dCons (dC (.str "mint")) dNil))))) (T_law_4 τ P w mg base K ea cl a ns) dNext)
def T_law_6 (τ : Tbs) (P : Program) (w : World) (mg : Str → Option Value) (base : Heap) (K : PySem.W.Frag) (ea : EA) (cl : List (Str × Addr)) (a : Addr) (ns : List Int) : DTS := (dFor (dItems (dVar 4)) (dName 5) (T_law_5 τ P w mg base K ea cl a ns))
def T_law_7 (τ : Tbs) (P : Program) (w : World) (mg : Str → Option Value) (base : Heap) (K : PySem.W.Frag) (ea : EA) (cl : List (Str × Addr)) (a : Addr) (ns : List Int) : DTS := (dRet (dC (.bl false)))
def T_law_8 (τ : Tbs) (P : Program) (w : World) (mg : Str → Option Value) (base : Heap) (K : PySem.W.Frag) (ea : EA) (cl : List (Str × Addr)) (a : Addr) (ns : List Int) : DTS := (dIfS (dtNot (dTest (dCall 2 (F__law_all_say τ P w K mg base ea) (dCons (dCall 2 (F__law_of_number τ P w K mg base ea) (dCons (dVar 3) (dCons (dVar 5) dNil))) (dCons (dC (.str "number")) dNil))))) (T_law_7 τ P w mg base K ea cl a ns) dNext)
def T_law_9 (τ : Tbs) (P : Program) (w : World) (mg : Str → Option Value) (base : Heap) (K : PySem.W.Frag) (ea : EA) (cl : List (Str × Addr)) (a : Addr) (ns : List Int) : DTS := (dFor (dItems (dLst (dCons (dC .non) (dCons (dC (.int 0)) (dCons (dUn dNeg (dC (.int 1))) (dCons (dBin dAdd (dBin dPow (dC (.int 10)) (dC (.int 30))) (dC (.int 1))) (dCons (dC (.bl true)) (dCons (dC (.str "1")) dNil)))))))) (dName 5) (T_law_8 τ P w mg base K ea cl a ns))
def T_law_10 (τ : Tbs) (P : Program) (w : World) (mg : Str → Option Value) (base : Heap) (K : PySem.W.Frag) (ea : EA) (cl : List (Str × Addr)) (a : Addr) (ns : List Int) : DTS := (dSet 6 (dTup (dCons (dTup (dCons (dC (.int 1)) (dCons (dC (.int 0)) dNil))) (dCons (dTup (dCons (dC (.int 2)) (dCons (dUn dNeg (dC (.int 1))) dNil))) dNil))))
def T_law_11 (τ : Tbs) (P : Program) (w : World) (mg : Str → Option Value) (base : Heap) (K : PySem.W.Frag) (ea : EA) (cl : List (Str × Addr)) (a : Addr) (ns : List Int) : DTS := (dRet (dC (.bl false)))
def T_law_12 (τ : Tbs) (P : Program) (w : World) (mg : Str → Option Value) (base : Heap) (K : PySem.W.Frag) (ea : EA) (cl : List (Str × Addr)) (a : Addr) (ns : List Int) : DTS := (dIfS (dtOr (dtNot (dTest (dSaysLive (G12 τ P w K mg base ea cl) 7 [6] [flat12]))) (dTest (dBin dNe (dCame K ea fun EK => (dCallX 3 (FC_fewest ea) EK (dCons (dVar 6) (dCons (dC (.int 1)) (dCons (dC (.int 2001)) dNil))))) (dC (.str "amount"))))) (T_law_11 τ P w mg base K ea cl a ns) dNext)
def T_law_13 (τ : Tbs) (P : Program) (w : World) (mg : Str → Option Value) (base : Heap) (K : PySem.W.Frag) (ea : EA) (cl : List (Str × Addr)) (a : Addr) (ns : List Int) : DTS := (dSet 8 (dTup (dCons (dTup (dCons (dC (.int 0)) (dCons (dC (.int 2)) dNil))) (dCons (dTup (dCons (dC (.int 0)) (dCons (dC (.int 3)) dNil))) (dCons (dTup (dCons (dC (.int 0)) (dCons (dC (.int 4)) dNil))) (dCons (dTup (dCons (dC (.int 0)) (dCons (dC (.int 5)) dNil))) (dCons (dTup (dCons (dC (.int 0)) (dCons (dC (.int 6)) dNil))) dNil)))))))
def T_law_14 (τ : Tbs) (P : Program) (w : World) (mg : Str → Option Value) (base : Heap) (K : PySem.W.Frag) (ea : EA) (cl : List (Str × Addr)) (a : Addr) (ns : List Int) : DTS := (dRet (dC (.bl false)))
def T_law_15 (τ : Tbs) (P : Program) (w : World) (mg : Str → Option Value) (base : Heap) (K : PySem.W.Frag) (ea : EA) (cl : List (Str × Addr)) (a : Addr) (ns : List Int) : DTS := (dIfS (dTest (dBin dNe (dCame K ea fun EK => (dMakeS (FM_init ea) EK (dCons (dBin dIx (dVar 8) (dC (.int 0))) (dCons (dBin dIx (dVar 8) (dC (.int 1))) (dCons (dBin dIx (dVar 8) (dC (.int 2))) (dCons (dBin dIx (dVar 8) (dC (.int 3))) (dCons (dBin dIx (dVar 8) (dC (.int 4))) dNil))))))) (dC (.str "mint")))) (T_law_14 τ P w mg base K ea cl a ns) dNext)
def T_law_16 (τ : Tbs) (P : Program) (w : World) (mg : Str → Option Value) (base : Heap) (K : PySem.W.Frag) (ea : EA) (cl : List (Str × Addr)) (a : Addr) (ns : List Int) : DTS := (dRet (dC (.bl false)))
def T_law_17 (τ : Tbs) (P : Program) (w : World) (mg : Str → Option Value) (base : Heap) (K : PySem.W.Frag) (ea : EA) (cl : List (Str × Addr)) (a : Addr) (ns : List Int) : DTS := (dIfS (dTest (dBin dNe (dCame K ea fun EK => (dMakeS (FM_init ea) EK (dCons (dTup (dCons (dC (.int 1)) (dCons (dC (.int 0)) dNil))) (dCons (dTup (dCons (dC (.int 1)) (dCons (dC (.int 0)) dNil))) dNil)))) (dC (.str "mint")))) (T_law_16 τ P w mg base K ea cl a ns) dNext)
def T_law_18 (τ : Tbs) (P : Program) (w : World) (mg : Str → Option Value) (base : Heap) (K : PySem.W.Frag) (ea : EA) (cl : List (Str × Addr)) (a : Addr) (ns : List Int) : DTS := (dFor (dRange1 (dCons (dBin dAdd (dCB dMin (dCons (dLenS 0 a ns) (dCons (dC (.int 4)) dNil))) (dC (.int 1))) dNil)) (dName 1) (dSeq (T_law_0 τ P w mg base K ea cl a ns)
    (dSeq (T_law_1 τ P w mg base K ea cl a ns)
    (dSeq (T_law_2 τ P w mg base K ea cl a ns)
    (dSeq (T_law_3 τ P w mg base K ea cl a ns)
    (dSeq (T_law_6 τ P w mg base K ea cl a ns)
    (dSeq (T_law_9 τ P w mg base K ea cl a ns)
    (dSeq (T_law_10 τ P w mg base K ea cl a ns)
    (dNewC 7 (nLst (dCons (dGood (G12 τ P w K mg base ea cl)) dNil)) (cStep (oApp 7 (dGood (G12 τ P w K mg base ea cl)))
    (cStep (oApp 7 (dGood (G12 τ P w K mg base ea cl)))
    (cStep (oApp 7 (dGood (G12 τ P w K mg base ea cl)))
    (cStep (oApp 7 (dGood (G12 τ P w K mg base ea cl)))
    (cStep (oApp 7 (dGood (G12 τ P w K mg base ea cl)))
    (cStep (oApp 7 (dGood (G12 τ P w K mg base ea cl)))
    (cEnd 7 (dSeq (T_law_12 τ P w mg base K ea cl a ns)
    (dSeq (T_law_13 τ P w mg base K ea cl a ns)
    (dSeq (T_law_15 τ P w mg base K ea cl a ns)
    (T_law_17 τ P w mg base K ea cl a ns))))))))))))))))))))
def T_law_19 (τ : Tbs) (P : Program) (w : World) (mg : Str → Option Value) (base : Heap) (K : PySem.W.Frag) (ea : EA) (cl : List (Str × Addr)) (a : Addr) (ns : List Int) : DTS := (dRet (dC (.bl true)))
def T_law (τ : Tbs) (P : Program) (w : World) (mg : Str → Option Value) (base : Heap) (K : PySem.W.Frag) (ea : EA) (cl : List (Str × Addr)) (a : Addr) (ns : List Int) : DTS := (dSeq (T_law_18 τ P w mg base K ea cl a ns)
    (T_law_19 τ P w mg base K ea cl a ns))
variable {τ : Tbs} {P : Program} {w : World} {mg : Str → Option Value} {base : Heap} {K : PySem.W.Frag} {ea : EA} {cl : List (Str × Addr)} {a : Addr} {ns : List Int} {D' : DEnds}
abbrev st12 (a : Addr) (j : Nat) (o2 o3 o4 o5 o6 o7 o8 : Option D) : DSt := [some (.raw (.ref a)), some (.int (j : Nat)), o2, o3, o4, o5, o6, o7, o8]
section
variable {j : Nat} {o2 o3 o4 o5 o6 o7 o8 : Option D} {m : Mint}
theorem k12_0 (k : D'.nx (st12 a j (some .spr) o3 o4 o5 o6 o7 o8)) : T_law_0 τ P w mg base K ea cl a ns D' (st12 a j o2 o3 o4 o5 o6 o7 o8) := by
  unfold T_law_0 dCallS
  walk_at "rd"
  exact ⟨trivial, j, rfl, k⟩
theorem k12_1 (k : ∀ m, okMint m = true → D'.nx (st12 a j (some .spr) (some (mintD m)) o4 o5 o6 o7 o8)) : T_law_1 τ P w mg base K ea cl a ns D' (st12 a j (some .spr) o3 o4 o5 o6 o7 o8) := by
  unfold T_law_1
  walk_at "rd"
  exact ⟨trivial, 4, rfl, by decide, by decide, fun m hm _ => k m hm⟩
def oddM (d : D) : Prop := flat d = true ∧ fitB d = false
theorem s_mint12 : PyData.strOk (Str.ofString "mint") = true := by decide +kernel
theorem s_number12 : PyData.strOk (Str.ofString "number") = true := by decide +kernel
theorem s_struck12 : PyData.strOk (Str.ofString "struck") = true := by decide +kernel
theorem s_amount12 : PyData.strOk (Str.ofString "amount") = true := by decide +kernel
theorem okMint_pw {m : Mint} (h : okMint m = true) : m.Pairwise fun x y => leP x y = true ∧ x ≠ y := by
  unfold okMint at h
  simp only [Bool.and_eq_true] at h
  exact (risingP_iff m).mp h.2
theorem okMint_pos {m : Mint} (h : okMint m = true) : 1 ≤ m.length ∧ m.length ≤ 4 := by
  unfold okMint at h
  simp only [Bool.and_eq_true, decide_eq_true_eq] at h
  exact h.1.1
theorem twice_no (m : Mint) (h : 1 ≤ m.length) : okMint (m ++ m) = false := by
  cases hb : okMint (m ++ m) with
  | false => rfl
  | true =>
    have hp := okMint_pw hb
    match m, h with
    | p :: r, _ =>
      rw [List.pairwise_append] at hp
      exact absurd rfl (hp.2.2 p List.mem_cons_self p List.mem_cons_self).2
theorem k12_23 (hm : okMint m = true) (k : ∀ ds, (∀ d ∈ ds, oddM d) → D'.nx (st12 a j o2 (some (mintD m)) (some (.lst ds)) o5 o6 o7 o8)) : (dSeq (T_law_2 τ P w mg base K ea cl a ns) (T_law_3 τ P w mg base K ea cl a ns)) D' (st12 a j o2 (some (mintD m)) o4 o5 o6 o7 o8) := by
  have hl := okMint_pos hm
  obtain ⟨p, r, rfl⟩ : ∃ p r, m = p :: r := by
    match m, hl with
    | p :: r, _ => exact ⟨p, r, rfl⟩
  refine st_seq ?_
  unfold T_law_2 T_law_3 mintD
  walk_at "rd"
  simp only [at0]
  have z : ∀ n : Nat, n ≤ 1000 → n ≤ sizeLine := fun n h => small_size (by omega)
  have fi : ∀ i j : Int, flat (D.tup [D.int i, D.int j]) = true := fun i j => flat_pair (i, j)
  have hr4 : r.length ≤ 3 := by have := hl.2; rw [List.length_cons] at this; omega
  refine ⟨z _ (by decide), by rw [List.length_map]; exact z _ (by omega), ?_⟩
  iterate 25 refine ⟨z _ (by decide), ?_⟩
  refine k _ fun d hd => ?_
  simp only [List.mem_cons, List.not_mem_nil, or_false] at hd
  have fm : flats (pairD p :: r.map pairD) = true := flats_map flat_pair (p :: r)
  rcases hd with rfl | rfl | rfl | rfl | rfl | rfl | rfl | rfl | rfl | rfl | rfl | rfl | rfl | rfl | rfl
  · exact ⟨flatN, rfl⟩
  · exact ⟨by rw [flat]; rfl, by decide +kernel⟩
  · exact ⟨by rw [flat]; exact fm, rfl⟩
  · exact ⟨flat_pair p, rfl⟩
  · have e : (D.tup (pairD p :: (r.map pairD ++ pairD p :: r.map pairD))) = mintD ((p :: r) ++ (p :: r)) := by unfold mintD; simp
    refine ⟨?_, ?_⟩
    · rw [e]; exact flat_mint _
    · rw [e, fitB_tup]; exact twice_no _ hl.1
  · exact ⟨by rw [flat]; exact s_mint12, rfl⟩
  all_goals exact ⟨by simp only [flat, flats, fi, Bool.and_true], by decide +kernel⟩
theorem k12_5 {d : D} (E : ErrAll K ea) (hd : oddM d) (k : D'.nx (st12 a j o2 o3 o4 (some d) o6 o7 o8)) : T_law_5 τ P w mg base K ea cl a ns D' (st12 a j o2 o3 o4 (some d) o6 o7 o8) := by
  unfold T_law_5 F__law_of_mint F__law_all_say
  walk_at "rd"
  refine ⟨trivial, ⟨d, rfl, hd.1, hd.2⟩, by rw [flats, hd.1, flats]; rfl, fun ls hl hS => ⟨trivial, ls, "mint", rfl, hl, s_mint12, hS, ?_⟩⟩
  simpa using k
theorem k12_6 {ds : List D} (E : ErrAll K ea) (hds : ∀ d ∈ ds, oddM d) (k : ∀ o5, D'.nx (st12 a j o2 o3 (some (.lst ds)) o5 o6 o7 o8)) : T_law_6 τ P w mg base K ea cl a ns D' (st12 a j o2 o3 (some (.lst ds)) o5 o6 o7 o8) := by
  unfold T_law_6 dFor
  walk_at "rd"
  have e : ds = ds.map id := by simp
  have h := forW_up (g := dName 5) (tb := T_law_5 τ P w mg base K ea cl a ns) (K := D') id (fun rest δ => (∃ o5, δ = st12 a j o2 o3 (some (.lst ds)) o5 o6 o7 o8) ∧ ∀ d ∈ rest, oddM d) (fun d rest δ hI N hN => ?_) (fun δ hI => ?_) ds (st12 a j o2 o3 (some (.lst ds)) o5 o6 o7 o8) ⟨⟨_, rfl⟩, hds⟩
  · rw [← e] at h
    exact h
  · obtain ⟨⟨p5, rfl⟩, hr⟩ := hI
    exact k12_5 (τ := τ) (P := P) (w := w) (mg := mg) (base := base) (K := K) (ea := ea) (cl := cl) (ns := ns) E (hr d List.mem_cons_self) (hN _ ⟨⟨_, rfl⟩, fun x hx => hr x (List.mem_cons_of_mem _ hx)⟩)
  · obtain ⟨⟨p5, rfl⟩, _⟩ := hI
    exact k p5
def oddN (d : D) : Prop := flat d = true ∧ within d 1 (10 ^ 30) = false
theorem k12_8 {d : D} (E : ErrAll K ea) (hm : okMint m = true) (hd : oddN d) (k : D'.nx (st12 a j o2 (some (mintD m)) o4 (some d) o6 o7 o8)) : T_law_8 τ P w mg base K ea cl a ns D' (st12 a j o2 (some (mintD m)) o4 (some d) o6 o7 o8) := by
  unfold T_law_8 F__law_of_number F__law_all_say
  walk_at "rd"
  refine ⟨trivial, ⟨m, d, rfl, hm, hd.1, hd.2⟩, by rw [flats, flats, flats, flat_mint, hd.1]; rfl, fun ls hl hS => ⟨trivial, ls, "number", rfl, hl, s_number12, hS, ?_⟩⟩
  simpa using k
theorem k12_9 (E : ErrAll K ea) (hm : okMint m = true) (k : ∀ o5, D'.nx (st12 a j o2 (some (mintD m)) o4 o5 o6 o7 o8)) : T_law_9 τ P w mg base K ea cl a ns D' (st12 a j o2 (some (mintD m)) o4 o5 o6 o7 o8) := by
  unfold T_law_9 dFor
  walk_at "rd"
  refine ⟨by unfold CPow; exact ⟨by decide, by decide, by decide⟩, by decide, ?_⟩
  have hs : PyData.strOk (Str.ofString "1") = true := by decide +kernel
  have h5 : ∀ d ∈ [D.non, D.int 0, D.int (-1), D.int (10 ^ (30 : Int).toNat + 1), D.bl true, D.str "1"], oddN d := fun d hd => by
    simp only [List.mem_cons, List.not_mem_nil, or_false] at hd
    rcases hd with rfl | rfl | rfl | rfl | rfl | rfl
    · exact ⟨flatN, rfl⟩
    · exact ⟨flat_int _, by decide +kernel⟩
    · exact ⟨flat_int _, by decide +kernel⟩
    · exact ⟨flat_int _, by decide +kernel⟩
    · exact ⟨flat_bl _, rfl⟩
    · exact ⟨by rw [flat]; exact hs, rfl⟩
  generalize [D.non, D.int 0, D.int (-1), D.int (10 ^ (30 : Int).toNat + 1), D.bl true, D.str "1"] = xs at h5 ⊢
  rw [show xs = xs.map id by simp]
  refine forW_up id (fun rest δ => (∃ o5, δ = st12 a j o2 (some (mintD m)) o4 o5 o6 o7 o8) ∧ ∀ d ∈ rest, oddN d) (fun d rest δ hI N hN => ?_) (fun δ hI => ?_) _ _ ⟨⟨_, rfl⟩, h5⟩
  · obtain ⟨⟨p5, rfl⟩, hr⟩ := hI
    exact k12_8 (τ := τ) (P := P) (w := w) (mg := mg) (base := base) (K := K) (ea := ea) (cl := cl) (ns := ns) E hm (hr d List.mem_cons_self) (hN _ ⟨⟨_, rfl⟩, fun x hx => hr x (List.mem_cons_of_mem _ hx)⟩)
  · obtain ⟨⟨p5, rfl⟩, _⟩ := hI
    exact k p5
theorem k12_10 (k : D'.nx (st12 a j o2 o3 o4 o5 (some flat12) o7 o8)) : T_law_10 τ P w mg base K ea cl a ns D' (st12 a j o2 o3 o4 o5 o6 o7 o8) := by
  unfold T_law_10
  walk_at "rd"
  rw [flat12_is] at k
  exact ⟨small_size (by decide), small_size (by decide), small_size (by decide), k⟩
theorem good_plain {l : D} (h : G12 τ P w K mg base ea cl l) : plain l = true := by
  obtain ⟨ob, c', q, rfl, _⟩ := h
  rw [plain, plains]
theorem cstep_good {i : Nat} {u : CTS} {Kd : DEnds} {δ : DSt} {xs : List D} (hx : xs.length ≤ 500) (k : ∀ l, G12 τ P w K mg base ea cl l → u Kd δ (xs ++ [l])) : cStep (oApp i (dGood (G12 τ P w K mg base ea cl))) u Kd δ xs := by
  unfold cStep oApp oE dGood
  exact fun l hl => ⟨good_plain hl, by have := small_size (n := 1000) (by decide); omega, k l hl⟩
theorem k12_12 {ls : List D} (E : ErrAll K ea) (hls : ∀ l ∈ ls, G12 τ P w K mg base ea cl l) (hlen : ls.length ≤ 1000) (k : D'.nx (st12 a j o2 o3 o4 o5 (some flat12) (some (.lst ls)) o8)) : T_law_12 τ P w mg base K ea cl a ns D' (st12 a j o2 o3 o4 o5 (some flat12) (some (.lst ls)) o8) := by
  unfold T_law_12 dSaysLive
  walk_at "rd"
  refine ⟨ls, rfl, hls, hlen, trivial, fun n j' d h1 h2 => ?_, ?_⟩
  · match n, h1, h2 with
    | 0, h1, h2 => cases h1; cases h2; rfl
    | n + 1, h1, h2 => simp at h1
  · simp only [Bool.not_true, Bool.false_eq_true, if_false]
    refine ⟨trivial, _, _, _, rfl, ⟨by rw [flat12_is]; exact flat_mint _, flat_int _, flat_int _⟩, .inr ⟨[(1, 0), (2, -1)], flat12_is, by decide, .inr ⟨1, rfl, by decide, .inl ⟨by decide, "amount", E.amount, cmp_str s_amount12, cmp_str s_amount12, ?_⟩⟩⟩⟩
    rw [eqD_strs]
    simpa using k
theorem atI_c0 {α : Type} (x0 : α) (r : List α) : L2.atI (x0 :: r) 0 = some x0 := at0 _ _
theorem atI_c1 {α : Type} (x0 x1 : α) (r : List α) : L2.atI (x0 :: x1 :: r) 1 = some x1 := at1 _ _ _
theorem atI_c2 {α : Type} (x0 x1 x2 : α) (r : List α) : L2.atI (x0 :: x1 :: x2 :: r) 2 = some x2 := at2 _ _ _ _
theorem atI_c3 {α : Type} (x0 x1 x2 x3 : α) (r : List α) : L2.atI (x0 :: x1 :: x2 :: x3 :: r) 3 = some x3 := by
  have : L2.atI (x0 :: x1 :: x2 :: x3 :: r) ((3 : Nat) : Int) = some x3 := atI_nat rfl
  exact this
theorem atI_c4 {α : Type} (x0 x1 x2 x3 x4 : α) (r : List α) : L2.atI (x0 :: x1 :: x2 :: x3 :: x4 :: r) 4 = some x4 := by
  have : L2.atI (x0 :: x1 :: x2 :: x3 :: x4 :: r) ((4 : Nat) : Int) = some x4 := atI_nat rfl
  exact this
def coins12 : Mint := [(0, 2), (0, 3), (0, 4), (0, 5), (0, 6)]
theorem k12_13 (k : D'.nx (st12 a j o2 o3 o4 o5 o6 o7 (some (mintD coins12)))) : T_law_13 τ P w mg base K ea cl a ns D' (st12 a j o2 o3 o4 o5 o6 o7 o8) := by
  unfold T_law_13
  walk_at "rd"
  refine ⟨small_size (by decide), small_size (by decide), small_size (by decide), small_size (by decide), small_size (by decide), small_size (by decide), k⟩
theorem fm_init {m : Mint} {EK : Addr → Prop} (h1 : m.length ≤ 100) (h2 : m.all okCoin = true) (h3 : 4 < m.length ∨ ¬ m.Nodup) (hE : EK ea.mint) : FM_init ea (m.map pairD) EK := by
  refine ⟨m, rfl, h1, h2, fun qs hp _ => ?_, hE⟩
  cases hb : okMint qs with
  | false => rfl
  | true =>
    have h4 := okMint_pos hb
    rw [hp.length_eq] at h4
    have nd : qs.Nodup := (okMint_pw hb).imp fun h => h.2
    rcases h3 with h3 | h3
    · omega
    · exact absurd (hp.nodup_iff.mp nd) h3
theorem k12_15 (E : ErrAll K ea) (k : D'.nx (st12 a j o2 o3 o4 o5 o6 o7 (some (mintD coins12)))) : T_law_15 τ P w mg base K ea cl a ns D' (st12 a j o2 o3 o4 o5 o6 o7 (some (mintD coins12))) := by
  unfold T_law_15
  unfold mintD coins12 at *
  walk_at "rd"
  simp only [List.map_cons, List.map_nil, atI_c0, atI_c1, atI_c2, atI_c3, atI_c4]
  refine ⟨small_size (by decide), ?_⟩
  refine fm_init (m := coins12) (by decide) (by decide) (.inl (by decide)) ⟨"mint", E.mint, cmp_str s_mint12, cmp_str s_mint12, ?_⟩
  rw [eqD_strs]
  simpa using k
theorem k12_17 (E : ErrAll K ea) (k : D'.nx (st12 a j o2 o3 o4 o5 o6 o7 o8)) : T_law_17 τ P w mg base K ea cl a ns D' (st12 a j o2 o3 o4 o5 o6 o7 o8) := by
  unfold T_law_17
  walk_at "rd"
  refine ⟨small_size (by decide), small_size (by decide), small_size (by decide), ?_⟩
  refine fm_init (m := [(1, 0), (1, 0)]) (by decide) (by decide) (.inr (by decide)) ⟨"mint", E.mint, cmp_str s_mint12, cmp_str s_mint12, ?_⟩
  rw [eqD_strs]
  simpa using k
end
theorem rd_law (E : ErrAll K ea) : ∀ cl a ns (Q : DK), ns.length ≤ 63 → Q (.bl true) → T_law τ P w mg base K ea cl a ns { nx := fun _ => Q .non, rt := Q } (startD 9 [.raw (.ref a)]) := by
  intro cl a ns Q hl hq
  unfold T_law
  refine st_seq ?_
  unfold T_law_18 dFor dRange1 dLenS
  simp only [dCons, dNil, dC, dBin, dAdd, dCB, dMin]
  refine ⟨rfl, ?_⟩
  have hb : -(2 ^ 62) ≤ (if (4 : Int) < ((ns.length : Nat) : Int) then 4 else ((ns.length : Nat) : Int)) + 1 ∧ (if (4 : Int) < ((ns.length : Nat) : Int) then 4 else ((ns.length : Nat) : Int)) + 1 < 2 ^ 62 := by
    split <;> omega
  refine ⟨hb, ?_⟩
  have e0 : (fun i : Nat => D.int (0 + (i : Nat))) = fun i : Nat => D.int (i : Nat) := by funext i; rw [Int.zero_add]
  rw [e0]
  refine forW_up (fun i : Nat => D.int (i : Nat)) (fun _ δ => ∃ o1 o2 o3 o4 o5 o6 o7 o8, δ = [some (.raw (.ref a)), o1, o2, o3, o4, o5, o6, o7, o8]) (fun j rest δ hI N hN => ?_) (fun δ hI => ?_) _ _ ⟨_, _, _, _, _, _, _, _, rfl⟩
  · obtain ⟨p1, p2, p3, p4, p5, p6, p7, p8, rfl⟩ := hI
    show dSeq _ _ _ (st12 a j p2 p3 p4 p5 p6 p7 p8)
    walk_at "sq"; refine k12_0 (τ := τ) (P := P) (w := w) (mg := mg) (base := base) (K := K) (ea := ea) (cl := cl) (ns := ns) ?_
    walk_at "sq"; refine k12_1 (τ := τ) (P := P) (w := w) (mg := mg) (base := base) (K := K) (ea := ea) (cl := cl) (ns := ns) fun m hm => ?_
    refine k12_23 (τ := τ) (P := P) (w := w) (mg := mg) (base := base) (K := K) (ea := ea) (cl := cl) (ns := ns) hm fun ds hds => ?_
    walk_at "sq"; refine k12_6 (τ := τ) (P := P) (w := w) (mg := mg) (base := base) (K := K) (ea := ea) (cl := cl) (ns := ns) E hds fun q5 => ?_
    walk_at "sq"; refine k12_9 (τ := τ) (P := P) (w := w) (mg := mg) (base := base) (K := K) (ea := ea) (cl := cl) (ns := ns) E hm fun q5 => ?_
    walk_at "sq"; refine k12_10 (τ := τ) (P := P) (w := w) (mg := mg) (base := base) (K := K) (ea := ea) (cl := cl) (ns := ns) ?_
    unfold dNewC nLst
    refine ⟨by show 7 < 9; decide, fun l1 g1 => ⟨small_size (by simp), fun ad => ?_⟩⟩
    refine cstep_good (τ := τ) (P := P) (w := w) (mg := mg) (base := base) (K := K) (ea := ea) (cl := cl) (by simp) fun l2 g2 => ?_
    refine cstep_good (τ := τ) (P := P) (w := w) (mg := mg) (base := base) (K := K) (ea := ea) (cl := cl) (by simp) fun l3 g3 => ?_
    refine cstep_good (τ := τ) (P := P) (w := w) (mg := mg) (base := base) (K := K) (ea := ea) (cl := cl) (by simp) fun l4 g4 => ?_
    refine cstep_good (τ := τ) (P := P) (w := w) (mg := mg) (base := base) (K := K) (ea := ea) (cl := cl) (by simp) fun l5 g5 => ?_
    refine cstep_good (τ := τ) (P := P) (w := w) (mg := mg) (base := base) (K := K) (ea := ea) (cl := cl) (by simp) fun l6 g6 => ?_
    refine cstep_good (τ := τ) (P := P) (w := w) (mg := mg) (base := base) (K := K) (ea := ea) (cl := cl) (by simp) fun l7 g7 => ?_
    unfold cEnd
    show dSeq _ _ _ (st12 a j _ _ _ _ _ (some (.lst [l1, l2, l3, l4, l5, l6, l7])) p8)
    walk_at "sq"; refine k12_12 (τ := τ) (P := P) (w := w) (mg := mg) (base := base) (K := K) (ea := ea) (cl := cl) (ns := ns) E (fun l hl => ?_) (by simp) ?_
    · simp only [List.mem_cons, List.not_mem_nil, or_false] at hl
      rcases hl with rfl | rfl | rfl | rfl | rfl | rfl | rfl <;> assumption
    walk_at "sq"; refine k12_13 (τ := τ) (P := P) (w := w) (mg := mg) (base := base) (K := K) (ea := ea) (cl := cl) (ns := ns) ?_
    walk_at "sq"; refine k12_15 (τ := τ) (P := P) (w := w) (mg := mg) (base := base) (K := K) (ea := ea) (cl := cl) (ns := ns) E ?_
    exact k12_17 (τ := τ) (P := P) (w := w) (mg := mg) (base := base) (K := K) (ea := ea) (cl := cl) (ns := ns) E (hN _ ⟨_, _, _, _, _, _, _, _, rfl⟩)
  · exact hq

end Gf
namespace Gf
open PySem PySem.Spec PyProof.Rows L2 L2H HotX LamX
/-! a law's end by facts of names: each def, class, constant is asked by its name, once, of what the top leaves -/
def hDef (x : Str) (st : Stmt) : He.DefD := ⟨(x, none), x, x, defArgs st, defBody st, defScope st, [], []⟩
def hMeth (C m q : Str) (st : Stmt) : He.DefD := ⟨(C, some m), m, q, defArgs st, defBody st, defScope st, [], []⟩
section
variable {K : PySem.W.Frag} {h : Heap} {mg : Str → Option Value}
theorem h_fun {x q : Str} (st : Stmt) {f : Addr} {fd : FuncData} (F : FunD K x q (defArgs st) (defBody st) (defScope st) [] [] f fd) : Fun K x q st f fd := by
  obtain ⟨⟨oc, od, dV, kV, doc, pm, an, cdv, ct, osl, rfl, lk, hc, hd, _⟩, kp⟩ := F
  have e : dV = .none := by
    rcases hd with ⟨_, e⟩ | ⟨n, _⟩
    · exact e
    · exact absurd rfl n
  subst e
  exact ⟨⟨oc, od, kV, doc, pm, an, cdv, ct, osl, rfl, lk, hc⟩, kp⟩
theorem h_one {x : Str} {st : Stmt} {ps : List Str} {f : Addr} {fd : FuncData} (F : Fun K x x st f fd) (g : mg x = some (.ref f))
    (hb : ∀ (kV doc pm : Value) (an : Option Addr) (cdv ct : Value) (us : List Value), us.length = ps.length → bindArgs (PySem.W.fnOf x x (defArgs st) (defBody st) (defScope st) .none kV doc pm an cdv ct) ⟨us, []⟩ = pure (ps.zip us)) (hp : ps = psOf (defArgs st)) : At K mg x st ps f fd := ⟨F, g, F.binds hb, hp⟩
theorem h_mk {C : Str} (X : K.In h) (G : h.Ns mainGlobals mg) (g : (He.Fa.glo C).ok K = true) (c : (He.Fa.mkr C).ok K = true) : CAt K mg C (He.ga K C) (He.ma K (He.ga K C) "__init__") := ⟨He.glo_ok X G g, He.mkr_ok c⟩
theorem h_exc {x : Str} (c : (He.Fa.exc x).ok K = true) : RaiseC K (He.ga K x) := by
  obtain ⟨a, b, c, d⟩ := He.exc_ok c
  exact ⟨a, b, c, d⟩
/-! the package's error classes -/
def eaK (K : PySem.W.Frag) : EA := ⟨He.ga K "InvalidMint", He.ga K "InvalidNumber", He.ga K "InvalidAmount", He.ga K "InvalidSum", He.ga K "InvalidCoin", He.ga K "InvalidMenu", He.ga K "InvalidSeen", He.ga K "InvalidText", He.ga K "NotStruck", He.ga K "TooMuch", He.ga K "NothingLeft", He.ga K "MintError"⟩
def excCB (K : PySem.W.Frag) (D : Addr) : Bool :=
  He.eqO (PySem.W.findIn K (.ref D) "__getattribute__") (some (some (.builtin "BaseException.__getattribute__"))) && (He.eqO (PySem.W.findIn K (.ref D) "__getattr__") (some none) && (decide (PySem.W.subIn K (.ref D) (.type "BaseException") = some true) &&
  (PySem.W.hasDictIn K D && (He.eqO (PySem.W.findIn K (.ref D) "__class__") (some (some (.builtin "object.__class__"))) && (He.eqO (PySem.W.specialIn K (.builtin "object.__class__") "__get__") (some (some (.builtin "getset_descriptor.__get__"))) &&
  (decide (PySem.W.takesIn K (.builtin "object.__class__") = some true) && decide (PySem.W.mroIn K D (.type "object") = some true)))))))
theorem excCB_ok {D : Addr} (h : excCB K D = true) : ExcC K D := by
  obtain ⟨a, h⟩ := He.ba h
  obtain ⟨b, h⟩ := He.ba h
  obtain ⟨c, h⟩ := He.ba h
  obtain ⟨d, h⟩ := He.ba h
  obtain ⟨e, h⟩ := He.ba h
  obtain ⟨f, h⟩ := He.ba h
  obtain ⟨i, j⟩ := He.ba h
  exact ⟨He.eqO_ok a, He.eqO_ok b, of_decide_eq_true c, d, He.eqO_ok e, He.eqO_ok f, of_decide_eq_true i, of_decide_eq_true j⟩
def errCs : List (Str × Str) := [("InvalidMint", "mint"), ("InvalidNumber", "number"), ("InvalidAmount", "amount"), ("InvalidSum", "sum"), ("InvalidCoin", "coin"), ("InvalidMenu", "menu"), ("InvalidSeen", "seen"), ("InvalidText", "text"), ("NotStruck", "struck"), ("TooMuch", "much"), ("NothingLeft", "left")]
def errsB (K : PySem.W.Frag) : Bool := errCs.all fun p => excCB K (He.ga K p.1) && kitsB K (eaK K) (He.ga K p.1) p.2
theorem errs_one (c : errsB K = true) {x y : Str} (m : (x, y) ∈ errCs) (hy : y ∈ errWords) : ErrIs K (eaK K) (He.ga K x) y := by
  obtain ⟨a, b⟩ := He.ba (List.all_eq_true.mp c (x, y) m)
  exact errIs_mk (excCB_ok a) hy b
theorem errs_all (c : errsB K = true) : ErrAll K (eaK K) :=
  ⟨errs_one c (x := "InvalidMint") (by simp [errCs]) (by decide), errs_one c (x := "InvalidNumber") (by simp [errCs]) (by decide), errs_one c (x := "InvalidAmount") (by simp [errCs]) (by decide), errs_one c (x := "InvalidSum") (by simp [errCs]) (by decide), errs_one c (x := "InvalidCoin") (by simp [errCs]) (by decide), errs_one c (x := "InvalidMenu") (by simp [errCs]) (by decide), errs_one c (x := "InvalidSeen") (by simp [errCs]) (by decide), errs_one c (x := "InvalidText") (by simp [errCs]) (by decide), errs_one c (x := "NotStruck") (by simp [errCs]) (by decide), errs_one c (x := "TooMuch") (by simp [errCs]) (by decide), errs_one c (x := "NothingLeft") (by simp [errCs]) (by decide)⟩
/-! a def's table of made functions: it is empty behind the top -/
structure TbF (K : PySem.W.Frag) (h : Heap) (x : Str) (st : Stmt) (f c P : Addr) (fd : FuncData) : Prop where
  lk : ∃ (oc : Value) (od : Option Addr) (kV doc pm : Value) (an : Option Addr) (ct : Value) (osl : Array (Option Value)), fd = PySem.W.fnOf x x (defArgs st) (defBody st) (defScope st) .none kV doc pm an (.ref c) ct ∧ K.lookup f = some ⟨oc, od, .func fd, osl⟩
  hc : PySem.W.codeIn K (.ref c) x = true
  lc : ∃ (ow : Value) (ox : Option Addr) (vs : Array Value) (sl : Array (Option Value)), K.lookup c = some ⟨ow, ox, .fields vs, sl⟩ ∧ vs[11]? = some (.ref P)
  hd : PySem.W.codeHdIn K c P = true
  hn : K.lookup P = none
  hT : h.get? P = some { cls := .none, data := .fields #[] }
theorem hd_look {c P : Addr} (e : PySem.W.codeHdIn K c P = true) : ∃ (ow : Value) (ox : Option Addr) (vs : Array Value) (sl : Array (Option Value)), K.lookup c = some ⟨ow, ox, .fields vs, sl⟩ ∧ vs[11]? = some (.ref P) := by
  unfold PySem.W.codeHdIn at e
  split at e
  · rename_i vs sl hk
    simp only [Bool.and_eq_true] at e
    obtain ⟨⟨⟨⟨⟨e1, e2⟩, e3⟩, e4⟩, e5⟩, e6⟩ := e
    split at e1
    · rename_i P' h11
      exact ⟨_, _, _, _, hk, by rw [h11, beq_iff_eq.mp e1]⟩
    · cases e1
  · cases e
def tabP (K : PySem.W.Frag) (x : Str) : Addr := (He.cT K (x, none)).2
theorem tbf {x : Str} {st : Stmt} {fd : FuncData} {fa : List He.Fa} {fn : List He.DefD} {ts : List He.Tab} {tf : List He.Defn} {ex : PySem.W.Frag → Bool} {w : World} (F : Fun K x x st (He.ga K x) fd) (c : He.SaysX fa fn ts tf ex w h K) (hp : (x, none) ∈ tf) :
    ∃ cd, TbF K h x st (He.ga K x) cd (tabP K x) fd := by
  obtain ⟨oc, od, kV, doc, pm, an, cdv, ct, osl, rfl, lk, hc⟩ := F.ex
  obtain ⟨cd, rfl⟩ := He.codeIn_ref hc
  have ec : He.codeOf K (x, none) = cd := He.codeOf_eq (p := (x, none)) lk rfl
  have hd := c.hd _ hp
  have eq : (He.cT K (x, none)).1 = cd := ec
  rw [eq] at hd
  exact ⟨cd, ⟨oc, od, kV, doc, pm, an, ct, osl, rfl, lk⟩, hc, hd_look hd, hd, c.out _ hp, c.empty _ hp⟩
end
theorem nb {b : Bool} (h : (!b) = true) : b = false := by cases b; rfl; cases h
/-! the Hook: the objects that are looked at are named, each is fetched once -/
def codeA (g : Addr → Option Obj) (f : Addr) : Addr := match g f with
  | some ⟨_, _, .func fd, _⟩ => (match fd.code with
    | .ref c => c
    | _ => 0)
  | _ => 0
def nsA (g : Addr → Option Obj) (C : Addr) : Addr := match g C with
  | some ⟨_, _, .cls cd, _⟩ => cd.ns
  | _ => 0
def frAs {α : Type} : List Addr → (List Addr → α) → α
  | [], k => k []
  | a :: r, k => HandSHeadRun.frNat a fun a => frAs r fun r => k (a :: r)
theorem frAs_eq {α : Type} : ∀ (l : List Addr) (k : List Addr → α), frAs l k = k l
  | [], _ => rfl
  | a :: r, k => by
    show HandSHeadRun.frNat a (fun a => frAs r fun r => k (a :: r)) = _
    rw [HandSHeadRun.frNat_eq, frAs_eq r]
def frK {α : Type} : PySem.W.Frag → (PySem.W.Frag → α) → α
  | [], k => k []
  | (a, o) :: r, k => HandSHeadRun.frNat a fun a => frK r fun r => k ((a, o) :: r)
theorem frK_eq {α : Type} : ∀ (l : PySem.W.Frag) (k : PySem.W.Frag → α), frK l k = k l
  | [], _ => rfl
  | (a, o) :: r, k => by
    show HandSHeadRun.frNat a (fun a => frK r fun r => k ((a, o) :: r)) = _
    rw [HandSHeadRun.frNat_eq, frK_eq r]
/-- what is asked for: defs, classes, methods -/
structure Nms where
  fs : List Str
  cs : List Str
  ms : List (Str × Str)
variable (fa : List He.Fa) (fn : List He.DefD) (ts : List He.Tab) (tf : List He.Defn) (ex : PySem.W.Frag → Bool)
def obsAs (g : Addr → Option Obj) (K : PySem.W.Frag) : He.AlX := (He.obsT fa fn ts K, ex K && He.tabsB g tf K)
def obsY (N : Nms) (g : Addr → Option Obj) : He.AlX :=
  frK (He.frG g [mainGlobals]) fun K0 => frAs (N.fs.map (He.ga K0)) fun fs => frAs (N.cs.map (He.ga K0)) fun cs => frAs (fs.map (codeA g)) fun cds => frAs (cs.map (nsA g)) fun ns =>
  frK (He.frG g (mainGlobals :: (cs ++ ns))) fun K1 => frAs (N.ms.map fun p => He.ma K1 (He.ga K0 p.1) p.2) fun ms => frAs (ms.map (codeA g)) fun mcs =>
  frK (He.frT g (mainGlobals :: (fs ++ (cs ++ (cds ++ (ns ++ (ms ++ mcs))))))) fun K => obsAs fa fn ts tf ex g K
theorem obsY_as (N : Nms) (g : Addr → Option Obj) : ∃ as, obsY fa fn ts tf ex N g = obsAs fa fn ts tf ex g (He.frT g as) := by
  unfold obsY
  simp only [frAs_eq, frK_eq]
  exact ⟨_, rfl⟩
variable {fa fn ts tf ex}
theorem says_as {as : List Addr} {w : World} {h : Heap} (e : obsAs fa fn ts tf ex h.get? (He.frT h.get? as) = He.valX fn ts w) : He.SaysX fa fn ts tf ex w h (He.frT h.get? as) := by
  obtain ⟨e1, e2⟩ := Prod.mk.inj (show (He.obsT fa fn ts (He.frT h.get? as), ex (He.frT h.get? as) && He.tabsB h.get? tf (He.frT h.get? as)) = (He.valT fn ts w, true) from e)
  obtain ⟨x1, x2⟩ := He.ba e2
  have each : ∀ p ∈ tf, PySem.W.codeHdIn (He.frT h.get? as) (He.cT (He.frT h.get? as) p).1 (He.cT (He.frT h.get? as) p).2 = true ∧ ∃ o, h.get? (He.cT (He.frT h.get? as) p).2 = some o ∧ He.emptyTab o = true := by
    intro p hp
    obtain ⟨y1, y2⟩ := He.ba (List.all_eq_true.mp x2 p hp)
    refine ⟨y1, ?_⟩
    split at y2
    · exact ⟨_, by assumption, y2⟩
    · cases y2
  refine ⟨e1, x1, fun p hp => (each p hp).1, fun p hp => ?_, fun p hp => ?_⟩
  · obtain ⟨-, o, q, z⟩ := each p hp
    exact He.frT_none q z
  · obtain ⟨-, o, q, z⟩ := each p hp
    rw [q, He.emptyTab_eq z]
variable (fa fn ts tf ex)
def hookY (N : Nms) : PySem.W.Hook where
  α := He.AlX
  obs := fun s => obsY fa fn ts tf ex N s.heap.get?
  val := fun w => He.valX fn ts w
  says := fun w h => ∃ K : PySem.W.Frag, K.In h ∧ He.SaysX fa fn ts tf ex w h K
  of := fun w s e => by
    obtain ⟨as, q⟩ := obsY_as fa fn ts tf ex N s.heap.get?
    exact ⟨_, He.frT_in, says_as (q.symm.trans e)⟩
  keeps := (He.hookX 0 fa fn ts tf ex).keeps
theorem obsY_eq (N : Nms) {g : Addr → Option Obj} {s : Shared} (h : ∀ a, g a = s.heap.get? a) : obsY fa fn ts tf ex N g = (hookY fa fn ts tf ex N).obs s := by
  rw [show g = s.heap.get? from funext h]
  rfl
end Gf
namespace Gf
open PySem PySem.Spec PyProof.Rows L2 L2H HotX LamX
def topS (i : Nat) : Stmt := PySem.Challenge.pw_giveform_k12_what_is_refused.main.body.getD i (.Pass ⟨0, 0, 0, 0⟩)
abbrev s__law_spring : Stmt := topS 100
abbrev s__law_pick : Stmt := topS 101
abbrev s__law_coin : Stmt := topS 104
abbrev s__law_mint : Stmt := topS 105
abbrev s__law_error_of : Stmt := topS 111
abbrev s_is_wide : Stmt := topS 25
abbrev s_is_within : Stmt := topS 24
abbrev s_is_coin : Stmt := topS 26
abbrev s_is_fit : Stmt := topS 27
abbrev s_look_at_mint : Stmt := topS 28
abbrev s_look_at_number : Stmt := topS 29
abbrev s_look_at_amount : Stmt := topS 41
abbrev s_worths_by : Stmt := topS 30
abbrev s_struck_by : Stmt := topS 31
abbrev s_look_at_struck : Stmt := topS 32
abbrev s_look_at_all : Stmt := topS 42
abbrev s_look_at_both : Stmt := topS 52
abbrev s_in_order : Stmt := topS 96
abbrev s_is_struck : Stmt := topS 33
abbrev s_worths : Stmt := topS 34
abbrev s_struck : Stmt := topS 35
abbrev s_change : Stmt := topS 43
abbrev s_count_given : Stmt := topS 44
abbrev s_most_given : Stmt := topS 45
abbrev s_fewest : Stmt := topS 46
abbrev s_is_right : Stmt := topS 53
abbrev s_least_bad : Stmt := topS 54
abbrev s_worse_by : Stmt := topS 55
abbrev s_right : Stmt := topS 64
abbrev s_always_right : Stmt := topS 65
abbrev s_bad_form : Stmt := topS 66
abbrev s_worse_form : Stmt := topS 67
abbrev s_count_form : Stmt := topS 68
abbrev s_leavable : Stmt := topS 77
abbrev s_addable : Stmt := topS 78
abbrev s_alike : Stmt := topS 71
abbrev s_parting : Stmt := topS 72
abbrev s_numbers_told : Stmt := topS 83
abbrev s_mint_text : Stmt := topS 88
abbrev s__law_came : Stmt := topS 112
abbrev s__law_all_say : Stmt := topS 115
abbrev s__law_of_mint : Stmt := topS 113
abbrev s__law_of_number : Stmt := topS 114
abbrev s_law : Stmt := topS 116
abbrev s_Till_init : Stmt := inClass (topS 94) 0
abbrev s_Mint_init : Stmt := inClass (topS 98) 1
structure Top (K : PySem.W.Frag) (mg : Str → Option Value) (ea : EA) (fa : Str → Addr) : Prop where
  errs : Errs mg ea
  a__law_spring : ∃ f fd, At K mg "_law_spring" s__law_spring ["script", "at"] f fd
  a__law_pick : ∃ f fd, At K mg "_law_pick" s__law_pick ["spring", "many"] f fd
  a__law_coin : ∃ f fd, At K mg "_law_coin" s__law_coin ["spring"] f fd
  a__law_mint : ∃ f fd, At K mg "_law_mint" s__law_mint ["spring", "most"] f fd
  a__law_error_of : ∃ f fd, At K mg "_law_error_of" s__law_error_of ["e"] f fd
  a_is_wide : ∃ f fd, At K mg "is_wide" s_is_wide ["value", "low", "high"] f fd
  a_is_within : ∃ f fd, At K mg "is_within" s_is_within ["value", "low", "high"] f fd
  a_is_coin : ∃ f fd, At K mg "is_coin" s_is_coin ["value"] f fd
  a_is_fit : ∃ f fd, At K mg "is_fit" s_is_fit ["value"] f fd
  a_look_at_mint : ∃ f fd, At K mg "look_at_mint" s_look_at_mint ["mint"] f fd
  a_look_at_number : ∃ f fd, At K mg "look_at_number" s_look_at_number ["n"] f fd
  a_look_at_amount : ∃ f fd, At K mg "look_at_amount" s_look_at_amount ["amount", "most"] f fd
  a_worths_by : ∃ f fd, At K mg "worths_by" s_worths_by ["mint", "n"] f fd
  a_struck_by : ∃ f fd, At K mg "struck_by" s_struck_by ["mint", "n"] f fd
  a_look_at_struck : ∃ f fd, At K mg "look_at_struck" s_look_at_struck ["mint", "n"] f fd
  a_look_at_all : ∃ f fd, At K mg "look_at_all" s_look_at_all ["mint", "n", "amount", "most"] f fd
  a_look_at_both : ∃ f fd, At K mg "look_at_both" s_look_at_both ["mint", "n"] f fd
  a_in_order : ∃ f fd, At K mg "in_order" s_in_order ["coins"] f fd
  a_is_struck : ∃ f fd, At K mg "is_struck" s_is_struck ["mint", "n"] f fd
  a_worths : ∃ f fd, At K mg "worths" s_worths ["mint", "n"] f fd
  a_struck : ∃ f fd, At K mg "struck" s_struck ["mint"] f fd
  a_change : ∃ f fd, At K mg "change" s_change ["mint", "n", "amount"] f fd
  a_count_given : ∃ f fd, At K mg "count_given" s_count_given ["mint", "n", "amount"] f fd
  a_most_given : ∃ f fd, At K mg "most_given" s_most_given ["mint", "n", "amount"] f fd
  a_fewest : ∃ f fd, At K mg "fewest" s_fewest ["mint", "n", "amount"] f fd
  a_is_right : ∃ f fd, At K mg "is_right" s_is_right ["mint", "n"] f fd
  a_least_bad : ∃ f fd, At K mg "least_bad" s_least_bad ["mint", "n"] f fd
  a_worse_by : ∃ f fd, At K mg "worse_by" s_worse_by ["mint", "n"] f fd
  a_right : ∃ f fd, At K mg "right" s_right ["mint"] f fd
  a_always_right : ∃ f fd, At K mg "always_right" s_always_right ["mint"] f fd
  a_bad_form : ∃ f fd, At K mg "bad_form" s_bad_form ["mint"] f fd
  a_worse_form : ∃ f fd, At K mg "worse_form" s_worse_form ["mint"] f fd
  a_count_form : ∃ f fd, At K mg "count_form" s_count_form ["mint", "sum_so"] f fd
  a_leavable : ∃ f fd, At K mg "leavable" s_leavable ["mint"] f fd
  a_addable : ∃ f fd, At K mg "addable" s_addable ["mint", "menu"] f fd
  a_alike : ∃ f fd, At K mg "alike" s_alike ["one", "other"] f fd
  a_parting : ∃ f fd, At K mg "parting" s_parting ["one", "other"] f fd
  a_numbers_told : ∃ f fd, At K mg "numbers_told" s_numbers_told ["mint", "seen"] f fd
  a_mint_text : ∃ f fd, At K mg "mint_text" s_mint_text ["mint"] f fd
  a__law_came : ∃ f fd, At K mg "_law_came" s__law_came ["call_so"] f fd
  a__law_all_say : ∃ f fd, At K mg "_law_all_say" s__law_all_say ["calls_so", "word"] f fd
  c_Till : ∃ C f fd, CAt K mg "Till" C f ∧ MAt K "__init__" "Till.__init__" s_Till_init ["self", "mint", "n"] f fd
  c_Mint : ∃ C f fd, CAt K mg "Mint" C f ∧ Fun K "__init__" "Mint.__init__" s_Mint_init f fd
  m_ValueError : mg "ValueError" = none
  m_abs : mg "abs" = none
  m_all : mg "all" = none
  m_bool : mg "bool" = none
  m_int : mg "int" = none
  m_isinstance : mg "isinstance" = none
  m_len : mg "len" = none
  m_list : mg "list" = none
  m_min : mg "min" = none
  m_range : mg "range" = none
  m_set : mg "set" = none
  m_sorted : mg "sorted" = none
  m_tuple : mg "tuple" = none
  m_zip : mg "zip" = none
  g_FAR : ∃ t, mg "FAR" = some (.int (1000000000000000000000000000000) t)
  g_WIDE : ∃ t, mg "WIDE" = some (.int (10000000000000000000000000000000) t)
  r_InvalidAmount : RaiseC K ea.amount
  r_InvalidMint : RaiseC K ea.mint
  r_InvalidNumber : RaiseC K ea.number
  r_NotStruck : RaiseC K ea.struck
section
variable {τ : Tbs} {P : Program} {w : World} {K : PySem.W.Frag} {mg : Str → Option Value} {base : Heap} {ea : EA} {fa : Str → Addr}
abbrev N__law_spring : List Str := ["script", "at", "cell", "mixed"]
theorem sc__law_spring : FnScope N__law_spring ["script", "at"] (defScope s__law_spring) := ⟨rfl, rfl, rfl, by decide +kernel, rfl, by decide +kernel, by decide +kernel⟩
theorem ok__law_spring (T : Top K mg ea fa) (h : ∀ a ns (j : Nat) (Q : DK), Q .spr → T__law_spring a ns { nx := fun _ => Q .non, rt := Q } (startD 4 [.raw (.ref a), .int j])) : SF τ P w K mg base 1 := by
  obtain ⟨f, fd, A⟩ := T.a__law_spring
  exact A.okSpring sc__law_spring rfl T__law_spring (fun cdv A' outer s H E a ns hS hr =>
    (pdss_cons (pds_set 2 pd_int sc__law_spring.nd)
    (pdss_cons (pds_if (pdt_cmp od_lt (dv 1) (pd_lenS 0 hS T.m_len) (nomark _)) (pdss_one (pds_set 2 (pd_callB cd_abs rfl T.m_abs b_abs (pda_cons (pd_ixS 0 hS (fun _ _ => rfl) (dv 1)) pda_nil)) sc__law_spring.nd)) pdss_nil)
    (pdss_cons (pds_set 3 (pd_op od_mod (pd_callTy cd_int rfl T.m_int b_int (pda_cons (pd_op od_add (pd_op od_add (pd_op od_mul (dv 2) pd_int) (pd_op od_mul pd_int (dv 1))) pd_int) pda_nil)) pd_int) sc__law_spring.nd)
    (pdss_one (pds_retSpr (pdn_lst (pda_cons (pd_if (pdt_cmp od_ge (dv 2) (pd_op od_pow pd_int pd_int) (nomark _)) (dv 2) pd_int) (pda_cons (dv 3) pda_nil))))))))) h
abbrev N__law_pick : List Str := ["spring", "many", "digit"]
theorem sc__law_pick : FnScope N__law_pick ["spring", "many"] (defScope s__law_pick) := ⟨rfl, rfl, rfl, by decide +kernel, rfl, by decide +kernel, by decide +kernel⟩
theorem ok__law_pick (T : Top K mg ea fa) (h : ∀ a m x y (Q : DK), 1 ≤ m → m.natAbs.log2 < 9000 → (∀ r, 0 ≤ r → r < m → Q (.int r)) → T__law_pick { nx := fun _ _ => False, rt := fun d xs => (∃ x y, xs = [.int x, .int y]) ∧ plain d = true ∧ Q d } (startD 3 [.raw (.ref a), .int m]) [.int x, .int y]) : DF τ P w K mg base "_law_pick" 1 2 F_pick := by
  obtain ⟨f, fd, A⟩ := T.a__law_pick
  exact A.okPick sc__law_pick rfl T__law_pick (fun cdv A' outer s H H0 E hr =>
    (pow_cons (pow_if (pdt_cmp od_gt (pd_ix (fun _ _ => rfl) (dv 0) pd_int) pd_int (nomark _)) (pow_cons (pow_set 2 (pd_op od_mod (pd_callTy cd_int rfl T.m_int b_int (pda_cons (pd_ix (fun _ _ => rfl) (dv 0) pd_int) pda_nil)) (dv 1)) sc__law_pick.nd)
    (pow_cons (pow_put pd_int (pd_op od_fdiv (pd_ix (fun _ _ => rfl) (dv 0) pd_int) (dv 1)))
    (pow_one (pow_ret (dv 2))))) pow_nil)
    (pow_cons (pow_put pd_int (pd_op od_mod (pd_callTy cd_int rfl T.m_int b_int (pda_cons (pd_op od_add (pd_op od_mul (pd_ix (fun _ _ => rfl) (dv 0) pd_int) pd_int) pd_int) pda_nil)) pd_int))
    (pow_one (pow_ret (pd_op od_mod (pd_callTy cd_int rfl T.m_int b_int (pda_cons (pd_op od_fdiv (pd_ix (fun _ _ => rfl) (dv 0) pd_int) pd_int) pda_nil)) (dv 1))))))) h
abbrev N__law_coin : List Str := ["spring", "b"]
theorem sc__law_coin : FnScope N__law_coin ["spring"] (defScope s__law_coin) := ⟨rfl, rfl, rfl, by decide +kernel, rfl, by decide +kernel, by decide +kernel⟩
theorem ok__law_coin (T : Top K mg ea fa) (d__law_pick : DF τ P w K mg base "_law_pick" 1 2 F__law_pick) (h : ∀ ds Q, ds.length = 1 → F__law_coin ds Q → T__law_coin { nx := fun _ => Q .non, rt := Q } (startD 2 ds)) : DF τ P w K mg base "_law_coin" 2 1 F__law_coin := by
  obtain ⟨f, fd, A⟩ := T.a__law_coin
  exact A.ok sc__law_coin rfl (T__law_coin) (fun cdv A' outer s H E hr =>
    (pdss_cons (pds_if (pdt_cmp (od_eq hr.units) (pd_callD d__law_pick hr (pda_cons (dv 0) (pda_cons pd_int pda_nil))) pd_int (nomark _)) (pdss_one (pds_ret (pd_tup (pda_cons pd_int (pda_cons (pd_op od_add pd_int (pd_callD d__law_pick hr (pda_cons (dv 0) (pda_cons pd_int pda_nil)))) pda_nil))))) pdss_nil)
    (pdss_cons (pds_set 1 (pd_if (pdt_cmp (od_eq hr.units) (pd_callD d__law_pick hr (pda_cons (dv 0) (pda_cons pd_int pda_nil))) pd_int (nomark _)) (pd_ix (fun _ _ => rfl) (pd_lst (pda_cons pd_int (pda_cons pd_int (pda_cons pd_int (pda_cons (pd_neg pd_int) pda_nil))))) (pd_callD d__law_pick hr (pda_cons (dv 0) (pda_cons pd_int pda_nil)))) (pd_op od_sub (pd_callD d__law_pick hr (pda_cons (dv 0) (pda_cons pd_int pda_nil))) pd_int)) sc__law_coin.nd)
    (pdss_one (pds_ret (pd_tup (pda_cons (pd_op od_add pd_int (pd_callD d__law_pick hr (pda_cons (dv 0) (pda_cons pd_int pda_nil)))) (pda_cons (dv 1) pda_nil)))))))) h
abbrev N__law_mint : List Str := ["spring", "most", "turn"]
theorem sc__law_mint : FnScope N__law_mint ["spring", "most"] (defScope s__law_mint) := ⟨rfl, rfl, rfl, by decide +kernel, rfl, by decide +kernel, by decide +kernel⟩
theorem ok__law_mint (T : Top K mg ea fa) (d__law_coin : DF τ P w K mg base "_law_coin" 2 1 F__law_coin) (d__law_pick : DF τ P w K mg base "_law_pick" 1 2 F__law_pick) (h : ∀ ds Q, ds.length = 2 → F__law_mint ds Q → T__law_mint { nx := fun _ => Q .non, rt := Q } (startD 3 ds)) : DF τ P w K mg base "_law_mint" 3 2 F__law_mint := by
  obtain ⟨f, fd, A⟩ := T.a__law_mint
  exact A.ok sc__law_mint rfl (T__law_mint) (fun cdv A' outer s H E hr =>
    (pdss_one (pds_ret (pd_callTy cd_tuple rfl T.m_tuple b_tuple (pda_cons (pd_sortedSet rfl T.m_sorted rfl T.m_set (pd_lc (own := [("turn", 2)]) sc__law_mint.nd (pdi_range1 rfl T.m_range (pda_cons (pd_op od_add pd_int (pd_callD d__law_pick hr (pda_cons (dv 0) (pda_cons (dv 1) pda_nil)))) pda_nil)) (blkOk_by (N := N__law_mint) (sc := defScope s__law_mint) (own := [("turn", 2)]) (by decide +kernel)) (fun _ _ _ _ _ => (pdg_name 2 sc__law_mint.nd)) (fun _ _ _ _ _ => pdts_nil) (fun _ _ _ _ _ => (pd_callD d__law_coin hr (pda_cons (dv 0) pda_nil)))) rfl hr.units) pda_nil))))) h
abbrev N__law_error_of : List Str := ["e", "some", "word", "good"]
theorem sc__law_error_of : FnScope N__law_error_of ["e"] (defScope s__law_error_of) := ⟨rfl, rfl, rfl, by decide +kernel, rfl, by decide +kernel, by decide +kernel⟩
theorem ok__law_error_of (T : Top K mg ea fa) (h : ∀ a D W (Q : DK), ErrIs K ea D W → Q (.str W) → T__law_error_of K ea a D { nx := fun _ => Q .non, rt := Q } (startD 4 [.raw (.ref a)])) : DErr τ P w K mg base "_law_error_of" 1 (ErrIs K ea) := by
  obtain ⟨f, fd, A⟩ := T.a__law_error_of
  exact A.okErr sc__law_error_of (T__law_error_of K ea) (fun cdv A' outer s H p D W hb hE hw =>
    (pdss_new 1 (pdn_lst (pda_cons (pd_tup (pda_cons pd_str (pda_cons (pd_callB hE rfl T.m_isinstance b_isinstance (pda_cons (dv 0) (pda_cons (pd_glob (v := .ref ea.mint) rfl T.errs.g_InvalidMint rfl fun _ _ => .raw _) pda_nil))) pda_nil))) pda_nil)) (fun H0 => (pow_cons (pow_app (pd_tup (pda_cons pd_str (pda_cons (pd_callB hE rfl T.m_isinstance b_isinstance (pda_cons (dv 0) (pda_cons (pd_glob (v := .ref ea.number) rfl T.errs.g_InvalidNumber rfl fun _ _ => .raw _) pda_nil))) pda_nil))))
    (pow_cons (pow_app (pd_tup (pda_cons pd_str (pda_cons (pd_callB hE rfl T.m_isinstance b_isinstance (pda_cons (dv 0) (pda_cons (pd_glob (v := .ref ea.amount) rfl T.errs.g_InvalidAmount rfl fun _ _ => .raw _) pda_nil))) pda_nil))))
    (pow_cons (pow_app (pd_tup (pda_cons pd_str (pda_cons (pd_callB hE rfl T.m_isinstance b_isinstance (pda_cons (dv 0) (pda_cons (pd_glob (v := .ref ea.sum) rfl T.errs.g_InvalidSum rfl fun _ _ => .raw _) pda_nil))) pda_nil))))
    (pow_cons (pow_app (pd_tup (pda_cons pd_str (pda_cons (pd_callB hE rfl T.m_isinstance b_isinstance (pda_cons (dv 0) (pda_cons (pd_glob (v := .ref ea.coin) rfl T.errs.g_InvalidCoin rfl fun _ _ => .raw _) pda_nil))) pda_nil))))
    (pow_cons (pow_app (pd_tup (pda_cons pd_str (pda_cons (pd_callB hE rfl T.m_isinstance b_isinstance (pda_cons (dv 0) (pda_cons (pd_glob (v := .ref ea.menu) rfl T.errs.g_InvalidMenu rfl fun _ _ => .raw _) pda_nil))) pda_nil))))
    (pow_cons (pow_app (pd_tup (pda_cons pd_str (pda_cons (pd_callB hE rfl T.m_isinstance b_isinstance (pda_cons (dv 0) (pda_cons (pd_glob (v := .ref ea.seen) rfl T.errs.g_InvalidSeen rfl fun _ _ => .raw _) pda_nil))) pda_nil))))
    (pow_cons (pow_app (pd_tup (pda_cons pd_str (pda_cons (pd_callB hE rfl T.m_isinstance b_isinstance (pda_cons (dv 0) (pda_cons (pd_glob (v := .ref ea.text) rfl T.errs.g_InvalidText rfl fun _ _ => .raw _) pda_nil))) pda_nil))))
    (pow_cons (pow_app (pd_tup (pda_cons pd_str (pda_cons (pd_callB hE rfl T.m_isinstance b_isinstance (pda_cons (dv 0) (pda_cons (pd_glob (v := .ref ea.struck) rfl T.errs.g_NotStruck rfl fun _ _ => .raw _) pda_nil))) pda_nil))))
    (pow_cons (pow_app (pd_tup (pda_cons pd_str (pda_cons (pd_callB hE rfl T.m_isinstance b_isinstance (pda_cons (dv 0) (pda_cons (pd_glob (v := .ref ea.much) rfl T.errs.g_TooMuch rfl fun _ _ => .raw _) pda_nil))) pda_nil))))
    (pow_cons (pow_app (pd_tup (pda_cons pd_str (pda_cons (pd_callB hE rfl T.m_isinstance b_isinstance (pda_cons (dv 0) (pda_cons (pd_glob (v := .ref ea.left) rfl T.errs.g_NothingLeft rfl fun _ _ => .raw _) pda_nil))) pda_nil))))
    (pow_cons (pow_app (pd_tup (pda_cons pd_str (pda_cons (pd_not (pd_callB hE rfl T.m_isinstance b_isinstance (pda_cons (dv 0) (pda_cons (pd_ty rfl T.m_ValueError b_ValueError) pda_nil)))) pda_nil))))
    (pow_tail (pdss_one (pds_ret (pd_join pd_str (pd_lcB (own := [("word", 2), ("good", 3)]) (i := 1) hb sc__law_error_of.nd (blkOk_by (N := N__law_error_of) (sc := defScope s__law_error_of) (own := [("word", 2), ("good", 3)]) (by decide +kernel)) (fun _ _ _ _ _ hb => (pdg_tupB hb (pdgs_cons (pdg_name 2 sc__law_error_of.nd) (pdgs_cons (pdg_name 3 sc__law_error_of.nd) pdgs_nil)))) (fun _ _ _ _ _ => (pdts_one (pdt_val (dv 3)))) (fun _ _ _ _ _ => (dv 2))))))))))))))))))) sc__law_error_of.nd)) (fun D W h => h.exc) h
abbrev N_is_wide : List Str := ["value", "low", "high"]
theorem sc_is_wide : FnScope N_is_wide ["value", "low", "high"] (defScope s_is_wide) := ⟨rfl, rfl, rfl, by decide +kernel, rfl, by decide +kernel, by decide +kernel⟩
theorem ok_is_wide (T : Top K mg ea fa) (h : ∀ ds Q, ds.length = 3 → F_is_wide ds Q → T_is_wide { nx := fun _ => Q .non, rt := Q } (startD 3 ds)) : DF τ P w K mg base "is_wide" 1 3 F_is_wide := by
  obtain ⟨f, fd, A⟩ := T.a_is_wide
  exact A.ok sc_is_wide rfl (T_is_wide) (fun cdv A' outer s H E hr =>
    (pdss_one (pds_ret (pd_and (pd_callB cd_isi rfl T.m_isinstance b_isinstance (pda_cons (dv 0) (pda_cons (pd_ty rfl T.m_tuple b_tuple) pda_nil))) (pd_one (pd_chain od_le od_le (dv 1) (pd_callB cd_len rfl T.m_len b_len (pda_cons (dv 0) pda_nil)) (dv 2))))))) h
abbrev N_is_within : List Str := ["value", "low", "high"]
theorem sc_is_within : FnScope N_is_within ["value", "low", "high"] (defScope s_is_within) := ⟨rfl, rfl, rfl, by decide +kernel, rfl, by decide +kernel, by decide +kernel⟩
theorem ok_is_within (T : Top K mg ea fa) (h : ∀ ds Q, ds.length = 3 → F_is_within ds Q → T_is_within { nx := fun _ => Q .non, rt := Q } (startD 3 ds)) : DF τ P w K mg base "is_within" 1 3 F_is_within := by
  obtain ⟨f, fd, A⟩ := T.a_is_within
  exact A.ok sc_is_within rfl (T_is_within) (fun cdv A' outer s H E hr =>
    (pdss_one (pds_ret (pd_and (pd_callB cd_isi rfl T.m_isinstance b_isinstance (pda_cons (dv 0) (pda_cons (pd_ty rfl T.m_int b_int) pda_nil))) (pd_and (pd_not (pd_callB cd_isi rfl T.m_isinstance b_isinstance (pda_cons (dv 0) (pda_cons (pd_ty rfl T.m_bool b_bool) pda_nil)))) (pd_one (pd_chain od_le od_le (dv 1) (dv 0) (dv 2)))))))) h
abbrev N_is_coin : List Str := ["value"]
theorem sc_is_coin : FnScope N_is_coin ["value"] (defScope s_is_coin) := ⟨rfl, rfl, rfl, by decide +kernel, rfl, by decide +kernel, by decide +kernel⟩
theorem ok_is_coin (T : Top K mg ea fa) (d_is_within : DF τ P w K mg base "is_within" 1 3 F_is_within) (d_is_wide : DF τ P w K mg base "is_wide" 1 3 F_is_wide) (h : ∀ ds Q, ds.length = 1 → F_is_coin ds Q → T_is_coin { nx := fun _ => Q .non, rt := Q } (startD 1 ds)) : DF τ P w K mg base "is_coin" 2 1 F_is_coin := by
  obtain ⟨f, fd, A⟩ := T.a_is_coin
  exact A.ok sc_is_coin rfl (T_is_coin) (fun cdv A' outer s H E hr =>
    (pdss_cons (pds_if (PDW.pdt (pdw_or (pdt_not (pdt_val (pd_callD d_is_wide hr (pda_cons (dv 0) (pda_cons pd_int (pda_cons pd_int pda_nil)))))) (pdw_or1 (pdt_not (pdt_val (pd_callD d_is_within hr (pda_cons (pd_ix (fun _ _ => rfl) (dv 0) pd_int) (pda_cons pd_int (pda_cons pd_int pda_nil))))))))) (pdss_one (pds_ret pd_bl)) pdss_nil)
    (pdss_one (pds_ret (pd_callD d_is_within hr (pda_cons (pd_ix (fun _ _ => rfl) (dv 0) pd_int) (pda_cons (pd_if (pdt_cmp od_gt (pd_ix (fun _ _ => rfl) (dv 0) pd_int) pd_int (nomark _)) (pd_neg pd_int) pd_int) (pda_cons pd_int pda_nil)))))))) h
abbrev N_is_fit : List Str := ["value", "coin"]
theorem sc_is_fit : FnScope N_is_fit ["value"] (defScope s_is_fit) := ⟨rfl, rfl, rfl, by decide +kernel, rfl, by decide +kernel, by decide +kernel⟩
theorem ok_is_fit (T : Top K mg ea fa) (d_is_wide : DF τ P w K mg base "is_wide" 1 3 F_is_wide) (d_is_coin : DF τ P w K mg base "is_coin" 2 1 F_is_coin) (h : ∀ ds Q, ds.length = 1 → F_is_fit ds Q → T_is_fit { nx := fun _ => Q .non, rt := Q } (startD 2 ds)) : DF τ P w K mg base "is_fit" 3 1 F_is_fit := by
  obtain ⟨f, fd, A⟩ := T.a_is_fit
  exact A.ok sc_is_fit rfl (T_is_fit) (fun cdv A' outer s H E hr =>
    (pdss_cons (pds_if (PDW.pdt (pdw_or (pdt_not (pdt_val (pd_callD d_is_wide hr (pda_cons (dv 0) (pda_cons pd_int (pda_cons pd_int pda_nil)))))) (pdw_or1 (pdt_not (pdt_val (pd_callB (cd_all rfl) rfl T.m_all b_all (pda_cons (pd_lc (own := [("coin", 1)]) sc_is_fit.nd (pdi_seq (dv 0)) (blkOk_by (N := N_is_fit) (sc := defScope s_is_fit) (own := [("coin", 1)]) (by decide +kernel)) (fun _ _ _ _ _ => (pdg_name 1 sc_is_fit.nd)) (fun _ _ _ _ _ => pdts_nil) (fun _ _ _ _ _ => (pd_callD d_is_coin hr (pda_cons (dv 1) pda_nil)))) pda_nil))))))) (pdss_one (pds_ret pd_bl)) pdss_nil)
    (pdss_one (pds_ret (pd_cmp (od_eq hr.units) (pd_callTy cd_list rfl T.m_list b_list (pda_cons (dv 0) pda_nil)) (pd_sortedSet rfl T.m_sorted rfl T.m_set (dv 0) rfl hr.units) (nomark _)))))) h
abbrev N_look_at_mint : List Str := ["mint"]
theorem sc_look_at_mint : FnScope N_look_at_mint ["mint"] (defScope s_look_at_mint) := ⟨rfl, rfl, rfl, by decide +kernel, rfl, by decide +kernel, by decide +kernel⟩
theorem ok_look_at_mint (T : Top K mg ea fa) (d_is_fit : DF τ P w K mg base "is_fit" 3 1 F_is_fit) (h : ∀ ds Q, ds.length = 1 → F_look_at_mint ds Q → T_look_at_mint { nx := fun _ => Q .non, rt := Q } (startD 1 ds)) : DF τ P w K mg base "look_at_mint" 4 1 F_look_at_mint := by
  obtain ⟨f, fd, A⟩ := T.a_look_at_mint
  exact A.ok sc_look_at_mint rfl (T_look_at_mint) (fun cdv A' outer s H E hr =>
    (pdss_one (pds_if (pdt_not (pdt_val (pd_callD d_is_fit hr (pda_cons (dv 0) pda_nil)))) (pdss_one pds_never) pdss_nil))) h
theorem okX_look_at_mint (T : Top K mg ea fa) (d_is_fit : DF τ P w K mg base "is_fit" 3 1 F_is_fit) (h : ∀ ds EK, ds.length = 1 → R_look_at_mint ea ds EK → TX_look_at_mint ea EK { nx := fun _ => False, rt := fun _ => False } (startD 1 ds)) : DX τ P w K mg base "look_at_mint" 4 1 (fun ds _ EK => R_look_at_mint ea ds EK) := by
  obtain ⟨f, fd, A⟩ := T.a_look_at_mint
  exact A.okX sc_look_at_mint rfl (TX_look_at_mint ea) (fun cdv A' outer s H E EK rx hr =>
    (pdss_one (pds_if (pdt_not (pdt_val (pd_callD d_is_fit hr (pda_cons (dv 0) pda_nil)))) (pdss_one (pds_raise T.r_InvalidMint T.errs.g_InvalidMint rx)) pdss_nil))) h
abbrev N_look_at_number : List Str := ["n"]
theorem sc_look_at_number : FnScope N_look_at_number ["n"] (defScope s_look_at_number) := ⟨rfl, rfl, rfl, by decide +kernel, rfl, by decide +kernel, by decide +kernel⟩
theorem ok_look_at_number (T : Top K mg ea fa) (d_is_within : DF τ P w K mg base "is_within" 1 3 F_is_within) (h : ∀ ds Q, ds.length = 1 → F_look_at_number ds Q → T_look_at_number { nx := fun _ => Q .non, rt := Q } (startD 1 ds)) : DF τ P w K mg base "look_at_number" 2 1 F_look_at_number := by
  obtain ⟨f, fd, A⟩ := T.a_look_at_number
  exact A.ok sc_look_at_number rfl (T_look_at_number) (fun cdv A' outer s H E hr =>
    (pdss_one (pds_if (pdt_not (pdt_val (pd_callD d_is_within hr (pda_cons (dv 0) (pda_cons pd_int (pda_cons (T.g_FAR.elim fun _ ht => pd_glob (v := (.int 1000000000000000000000000000000)) rfl ht ⟨_, rfl⟩ fun _ _ => .int _) pda_nil)))))) (pdss_one pds_never) pdss_nil))) h
theorem okX_look_at_number (T : Top K mg ea fa) (d_is_within : DF τ P w K mg base "is_within" 1 3 F_is_within) (h : ∀ ds EK, ds.length = 1 → R_look_at_number ea ds EK → TX_look_at_number ea EK { nx := fun _ => False, rt := fun _ => False } (startD 1 ds)) : DX τ P w K mg base "look_at_number" 2 1 (fun ds _ EK => R_look_at_number ea ds EK) := by
  obtain ⟨f, fd, A⟩ := T.a_look_at_number
  exact A.okX sc_look_at_number rfl (TX_look_at_number ea) (fun cdv A' outer s H E EK rx hr =>
    (pdss_one (pds_if (pdt_not (pdt_val (pd_callD d_is_within hr (pda_cons (dv 0) (pda_cons pd_int (pda_cons (T.g_FAR.elim fun _ ht => pd_glob (v := (.int 1000000000000000000000000000000)) rfl ht ⟨_, rfl⟩ fun _ _ => .int _) pda_nil)))))) (pdss_one (pds_raise T.r_InvalidNumber T.errs.g_InvalidNumber rx)) pdss_nil))) h
abbrev N_look_at_amount : List Str := ["amount", "most"]
theorem sc_look_at_amount : FnScope N_look_at_amount ["amount", "most"] (defScope s_look_at_amount) := ⟨rfl, rfl, rfl, by decide +kernel, rfl, by decide +kernel, by decide +kernel⟩
theorem ok_look_at_amount (T : Top K mg ea fa) (d_is_within : DF τ P w K mg base "is_within" 1 3 F_is_within) (h : ∀ ds Q, ds.length = 2 → F_look_at_amount ds Q → T_look_at_amount { nx := fun _ => Q .non, rt := Q } (startD 2 ds)) : DF τ P w K mg base "look_at_amount" 2 2 F_look_at_amount := by
  obtain ⟨f, fd, A⟩ := T.a_look_at_amount
  exact A.ok sc_look_at_amount rfl (T_look_at_amount) (fun cdv A' outer s H E hr =>
    (pdss_one (pds_if (pdt_not (pdt_val (pd_callD d_is_within hr (pda_cons (dv 0) (pda_cons pd_int (pda_cons (dv 1) pda_nil)))))) (pdss_one pds_never) pdss_nil))) h
theorem okX_look_at_amount (T : Top K mg ea fa) (d_is_within : DF τ P w K mg base "is_within" 1 3 F_is_within) (h : ∀ ds EK, ds.length = 2 → R_look_at_amount ea ds EK → TX_look_at_amount ea EK { nx := fun _ => False, rt := fun _ => False } (startD 2 ds)) : DX τ P w K mg base "look_at_amount" 2 2 (fun ds _ EK => R_look_at_amount ea ds EK) := by
  obtain ⟨f, fd, A⟩ := T.a_look_at_amount
  exact A.okX sc_look_at_amount rfl (TX_look_at_amount ea) (fun cdv A' outer s H E EK rx hr =>
    (pdss_one (pds_if (pdt_not (pdt_val (pd_callD d_is_within hr (pda_cons (dv 0) (pda_cons pd_int (pda_cons (dv 1) pda_nil)))))) (pdss_one (pds_raise T.r_InvalidAmount T.errs.g_InvalidAmount rx)) pdss_nil))) h
abbrev N_worths_by : List Str := ["mint", "n", "a", "b"]
theorem sc_worths_by : FnScope N_worths_by ["mint", "n"] (defScope s_worths_by) := ⟨rfl, rfl, rfl, by decide +kernel, rfl, by decide +kernel, by decide +kernel⟩
theorem ok_worths_by (T : Top K mg ea fa) (h : ∀ ds Q, ds.length = 2 → F_worths_by ds Q → T_worths_by { nx := fun _ => Q .non, rt := Q } (startD 4 ds)) : DF τ P w K mg base "worths_by" 1 2 F_worths_by := by
  obtain ⟨f, fd, A⟩ := T.a_worths_by
  exact A.ok sc_worths_by rfl (T_worths_by) (fun cdv A' outer s H E hr =>
    (pdss_one (pds_ret (pd_op od_add (pd_tup (pda_cons pd_int pda_nil)) (pd_callTy cd_tuple rfl T.m_tuple b_tuple (pda_cons (pd_lc (own := [("a", 2), ("b", 3)]) sc_worths_by.nd (pdi_seq (dv 0)) (blkOk_by (N := N_worths_by) (sc := defScope s_worths_by) (own := [("a", 2), ("b", 3)]) (by decide +kernel)) (fun _ _ _ _ _ => (pdg_tup (pdgs_cons (pdg_name 2 sc_worths_by.nd) (pdgs_cons (pdg_name 3 sc_worths_by.nd) pdgs_nil)))) (fun _ _ _ _ _ => pdts_nil) (fun _ _ _ _ _ => (pd_op od_add (pd_op od_mul (dv 2) (dv 1)) (dv 3)))) pda_nil)))))) h
abbrev N_struck_by : List Str := ["mint", "n", "some", "one", "other"]
theorem sc_struck_by : FnScope N_struck_by ["mint", "n"] (defScope s_struck_by) := ⟨rfl, rfl, rfl, by decide +kernel, rfl, by decide +kernel, by decide +kernel⟩
theorem ok_struck_by (T : Top K mg ea fa) (d_worths_by : DF τ P w K mg base "worths_by" 1 2 F_worths_by) (h : ∀ ds Q, ds.length = 2 → F_struck_by ds Q → T_struck_by { nx := fun _ => Q .non, rt := Q } (startD 5 ds)) : DF τ P w K mg base "struck_by" 2 2 F_struck_by := by
  obtain ⟨f, fd, A⟩ := T.a_struck_by
  exact A.ok sc_struck_by rfl (T_struck_by) (fun cdv A' outer s H E hr =>
    (pdss_cons (pds_set 2 (pd_callD d_worths_by hr (pda_cons (dv 0) (pda_cons (dv 1) pda_nil))) sc_struck_by.nd)
    (pdss_one (pds_ret (pd_callB (cd_all rfl) rfl T.m_all b_all (pda_cons (pd_lc (own := [("one", 3), ("other", 4)]) sc_struck_by.nd (pdi_zip rfl T.m_zip (pda_cons (dv 2) (pda_cons (pd_slice (dv 2) (pdo_some pd_int) pdo_none) pda_nil))) (blkOk_by (N := N_struck_by) (sc := defScope s_struck_by) (own := [("one", 3), ("other", 4)]) (by decide +kernel)) (fun _ _ _ _ _ => (pdg_tup (pdgs_cons (pdg_name 3 sc_struck_by.nd) (pdgs_cons (pdg_name 4 sc_struck_by.nd) pdgs_nil)))) (fun _ _ _ _ _ => pdts_nil) (fun _ _ _ _ _ => (pd_cmp od_lt (dv 3) (dv 4) (nomark _)))) pda_nil)))))) h
abbrev N_look_at_struck : List Str := ["mint", "n"]
theorem sc_look_at_struck : FnScope N_look_at_struck ["mint", "n"] (defScope s_look_at_struck) := ⟨rfl, rfl, rfl, by decide +kernel, rfl, by decide +kernel, by decide +kernel⟩
theorem ok_look_at_struck (T : Top K mg ea fa) (d_struck_by : DF τ P w K mg base "struck_by" 2 2 F_struck_by) (h : ∀ ds Q, ds.length = 2 → F_look_at_struck ds Q → T_look_at_struck { nx := fun _ => Q .non, rt := Q } (startD 2 ds)) : DF τ P w K mg base "look_at_struck" 3 2 F_look_at_struck := by
  obtain ⟨f, fd, A⟩ := T.a_look_at_struck
  exact A.ok sc_look_at_struck rfl (T_look_at_struck) (fun cdv A' outer s H E hr =>
    (pdss_one (pds_if (pdt_not (pdt_val (pd_callD d_struck_by hr (pda_cons (dv 0) (pda_cons (dv 1) pda_nil))))) (pdss_one pds_never) pdss_nil))) h
theorem okX_look_at_struck (T : Top K mg ea fa) (d_struck_by : DF τ P w K mg base "struck_by" 2 2 F_struck_by) (h : ∀ ds EK, ds.length = 2 → R_look_at_struck ea ds EK → TX_look_at_struck ea EK { nx := fun _ => False, rt := fun _ => False } (startD 2 ds)) : DX τ P w K mg base "look_at_struck" 3 2 (fun ds _ EK => R_look_at_struck ea ds EK) := by
  obtain ⟨f, fd, A⟩ := T.a_look_at_struck
  exact A.okX sc_look_at_struck rfl (TX_look_at_struck ea) (fun cdv A' outer s H E EK rx hr =>
    (pdss_one (pds_if (pdt_not (pdt_val (pd_callD d_struck_by hr (pda_cons (dv 0) (pda_cons (dv 1) pda_nil))))) (pdss_one (pds_raise T.r_NotStruck T.errs.g_NotStruck rx)) pdss_nil))) h
abbrev N_look_at_all : List Str := ["mint", "n", "amount", "most"]
theorem sc_look_at_all : FnScope N_look_at_all ["mint", "n", "amount", "most"] (defScope s_look_at_all) := ⟨rfl, rfl, rfl, by decide +kernel, rfl, by decide +kernel, by decide +kernel⟩
theorem ok_look_at_all (T : Top K mg ea fa) (d_look_at_mint : DF τ P w K mg base "look_at_mint" 4 1 F_look_at_mint) (d_look_at_number : DF τ P w K mg base "look_at_number" 2 1 F_look_at_number) (d_look_at_amount : DF τ P w K mg base "look_at_amount" 2 2 F_look_at_amount) (d_look_at_struck : DF τ P w K mg base "look_at_struck" 3 2 F_look_at_struck) (h : ∀ ds Q, ds.length = 4 → F_look_at_all ds Q → T_look_at_all { nx := fun _ => Q .non, rt := Q } (startD 4 ds)) : DF τ P w K mg base "look_at_all" 5 4 F_look_at_all := by
  obtain ⟨f, fd, A⟩ := T.a_look_at_all
  exact A.ok sc_look_at_all rfl (T_look_at_all) (fun cdv A' outer s H E hr =>
    (pdss_cons (pds_expr (pd_callD d_look_at_mint hr (pda_cons (dv 0) pda_nil)))
    (pdss_cons (pds_expr (pd_callD d_look_at_number hr (pda_cons (dv 1) pda_nil)))
    (pdss_cons (pds_expr (pd_callD d_look_at_amount hr (pda_cons (dv 2) (pda_cons (dv 3) pda_nil))))
    (pdss_one (pds_expr (pd_callD d_look_at_struck hr (pda_cons (dv 0) (pda_cons (dv 1) pda_nil))))))))) h
theorem okX_look_at_all (T : Top K mg ea fa) (d_look_at_mint : DF τ P w K mg base "look_at_mint" 4 1 F_look_at_mint) (dX_look_at_mint : DX τ P w K mg base "look_at_mint" 4 1 (FX_look_at_mint ea)) (d_look_at_number : DF τ P w K mg base "look_at_number" 2 1 F_look_at_number) (dX_look_at_number : DX τ P w K mg base "look_at_number" 2 1 (FX_look_at_number ea)) (d_look_at_amount : DF τ P w K mg base "look_at_amount" 2 2 F_look_at_amount) (dX_look_at_amount : DX τ P w K mg base "look_at_amount" 2 2 (FX_look_at_amount ea)) (d_look_at_struck : DF τ P w K mg base "look_at_struck" 3 2 F_look_at_struck) (dX_look_at_struck : DX τ P w K mg base "look_at_struck" 3 2 (FX_look_at_struck ea)) (h : ∀ ds EK, ds.length = 4 → R_look_at_all ea ds EK → TX_look_at_all ea EK { nx := fun _ => False, rt := fun _ => False } (startD 4 ds)) : DX τ P w K mg base "look_at_all" 5 4 (fun ds _ EK => R_look_at_all ea ds EK) := by
  obtain ⟨f, fd, A⟩ := T.a_look_at_all
  exact A.okX sc_look_at_all rfl (TX_look_at_all ea) (fun cdv A' outer s H E EK rx hr =>
    (pdss_cons (pds_expr (pd_callX dX_look_at_mint hr rx (pda_cons (dv 0) pda_nil)))
    (pdss_cons (pds_expr (pd_callX dX_look_at_number hr rx (pda_cons (dv 1) pda_nil)))
    (pdss_cons (pds_expr (pd_callX dX_look_at_amount hr rx (pda_cons (dv 2) (pda_cons (dv 3) pda_nil))))
    (pdss_one (pds_expr (pd_callX dX_look_at_struck hr rx (pda_cons (dv 0) (pda_cons (dv 1) pda_nil))))))))) h
abbrev N_look_at_both : List Str := ["mint", "n"]
theorem sc_look_at_both : FnScope N_look_at_both ["mint", "n"] (defScope s_look_at_both) := ⟨rfl, rfl, rfl, by decide +kernel, rfl, by decide +kernel, by decide +kernel⟩
theorem ok_look_at_both (T : Top K mg ea fa) (d_look_at_mint : DF τ P w K mg base "look_at_mint" 4 1 F_look_at_mint) (d_look_at_number : DF τ P w K mg base "look_at_number" 2 1 F_look_at_number) (h : ∀ ds Q, ds.length = 2 → F_look_at_both ds Q → T_look_at_both { nx := fun _ => Q .non, rt := Q } (startD 2 ds)) : DF τ P w K mg base "look_at_both" 5 2 F_look_at_both := by
  obtain ⟨f, fd, A⟩ := T.a_look_at_both
  exact A.ok sc_look_at_both rfl (T_look_at_both) (fun cdv A' outer s H E hr =>
    (pdss_cons (pds_expr (pd_callD d_look_at_mint hr (pda_cons (dv 0) pda_nil)))
    (pdss_one (pds_expr (pd_callD d_look_at_number hr (pda_cons (dv 1) pda_nil)))))) h
theorem okX_look_at_both (T : Top K mg ea fa) (d_look_at_mint : DF τ P w K mg base "look_at_mint" 4 1 F_look_at_mint) (dX_look_at_mint : DX τ P w K mg base "look_at_mint" 4 1 (FX_look_at_mint ea)) (d_look_at_number : DF τ P w K mg base "look_at_number" 2 1 F_look_at_number) (dX_look_at_number : DX τ P w K mg base "look_at_number" 2 1 (FX_look_at_number ea)) (h : ∀ ds EK, ds.length = 2 → R_look_at_both ea ds EK → TX_look_at_both ea EK { nx := fun _ => False, rt := fun _ => False } (startD 2 ds)) : DX τ P w K mg base "look_at_both" 5 2 (fun ds _ EK => R_look_at_both ea ds EK) := by
  obtain ⟨f, fd, A⟩ := T.a_look_at_both
  exact A.okX sc_look_at_both rfl (TX_look_at_both ea) (fun cdv A' outer s H E EK rx hr =>
    (pdss_cons (pds_expr (pd_callX dX_look_at_mint hr rx (pda_cons (dv 0) pda_nil)))
    (pdss_one (pds_expr (pd_callX dX_look_at_number hr rx (pda_cons (dv 1) pda_nil)))))) h
abbrev N_in_order : List Str := ["coins", "coin"]
theorem sc_in_order : FnScope N_in_order ["coins"] (defScope s_in_order) := ⟨rfl, rfl, rfl, by decide +kernel, rfl, by decide +kernel, by decide +kernel⟩
theorem ok_in_order (T : Top K mg ea fa) (d_is_coin : DF τ P w K mg base "is_coin" 2 1 F_is_coin) (h : ∀ ds Q, ds.length = 1 → F_in_order ds Q → T_in_order { nx := fun _ => Q .non, rt := Q } (startD 2 ds)) : DF τ P w K mg base "in_order" 3 1 F_in_order := by
  obtain ⟨f, fd, A⟩ := T.a_in_order
  exact A.ok sc_in_order rfl (T_in_order) (fun cdv A' outer s H E hr =>
    (pdss_cons (pds_if (pdt_not (pdt_val (pd_callB (cd_all rfl) rfl T.m_all b_all (pda_cons (pd_lc (own := [("coin", 1)]) sc_in_order.nd (pdi_seq (dv 0)) (blkOk_by (N := N_in_order) (sc := defScope s_in_order) (own := [("coin", 1)]) (by decide +kernel)) (fun _ _ _ _ _ => (pdg_name 1 sc_in_order.nd)) (fun _ _ _ _ _ => pdts_nil) (fun _ _ _ _ _ => (pd_callD d_is_coin hr (pda_cons (dv 1) pda_nil)))) pda_nil)))) (pdss_one pds_never) pdss_nil)
    (pdss_one (pds_ret (pd_callTy cd_tuple rfl T.m_tuple b_tuple (pda_cons (pd_callB (cd_sorted rfl hr.units) rfl T.m_sorted b_sorted (pda_cons (dv 0) pda_nil)) pda_nil)))))) h
abbrev N_is_struck : List Str := ["mint", "n"]
theorem sc_is_struck : FnScope N_is_struck ["mint", "n"] (defScope s_is_struck) := ⟨rfl, rfl, rfl, by decide +kernel, rfl, by decide +kernel, by decide +kernel⟩
theorem okC_is_struck (T : Top K mg ea fa) (d_look_at_mint : DF τ P w K mg base "look_at_mint" 4 1 F_look_at_mint) (dX_look_at_mint : DX τ P w K mg base "look_at_mint" 4 1 (FX_look_at_mint ea)) (d_look_at_number : DF τ P w K mg base "look_at_number" 2 1 F_look_at_number) (dX_look_at_number : DX τ P w K mg base "look_at_number" 2 1 (FX_look_at_number ea)) (h : ∀ ds EK, ds.length = 2 → RC_is_struck ea ds EK → TC_is_struck ea EK { nx := fun _ => False, rt := fun _ => False } (startD 2 ds)) : DX τ P w K mg base "is_struck" 5 2 (FC_is_struck ea) := by
  obtain ⟨f, fd, A⟩ := T.a_is_struck
  exact A.okX sc_is_struck rfl (TC_is_struck ea) (fun cdv A' outer s H E EK rx hr => (pdss_cons (pds_expr (pd_callX dX_look_at_mint hr rx (pda_cons (dv 0) pda_nil))) (pdss_cons (pds_expr (pd_callX dX_look_at_number hr rx (pda_cons (dv 1) pda_nil))) pdss_never))) h
abbrev N_worths : List Str := ["mint", "n"]
theorem sc_worths : FnScope N_worths ["mint", "n"] (defScope s_worths) := ⟨rfl, rfl, rfl, by decide +kernel, rfl, by decide +kernel, by decide +kernel⟩
theorem okC_worths (T : Top K mg ea fa) (d_look_at_mint : DF τ P w K mg base "look_at_mint" 4 1 F_look_at_mint) (dX_look_at_mint : DX τ P w K mg base "look_at_mint" 4 1 (FX_look_at_mint ea)) (d_look_at_number : DF τ P w K mg base "look_at_number" 2 1 F_look_at_number) (dX_look_at_number : DX τ P w K mg base "look_at_number" 2 1 (FX_look_at_number ea)) (h : ∀ ds EK, ds.length = 2 → RC_worths ea ds EK → TC_worths ea EK { nx := fun _ => False, rt := fun _ => False } (startD 2 ds)) : DX τ P w K mg base "worths" 5 2 (FC_worths ea) := by
  obtain ⟨f, fd, A⟩ := T.a_worths
  exact A.okX sc_worths rfl (TC_worths ea) (fun cdv A' outer s H E EK rx hr => (pdss_cons (pds_expr (pd_callX dX_look_at_mint hr rx (pda_cons (dv 0) pda_nil))) (pdss_cons (pds_expr (pd_callX dX_look_at_number hr rx (pda_cons (dv 1) pda_nil))) pdss_never))) h
abbrev N_struck : List Str := ["mint", "n"]
theorem sc_struck : FnScope N_struck ["mint"] (defScope s_struck) := ⟨rfl, rfl, rfl, by decide +kernel, rfl, by decide +kernel, by decide +kernel⟩
theorem okC_struck (T : Top K mg ea fa) (d_look_at_mint : DF τ P w K mg base "look_at_mint" 4 1 F_look_at_mint) (dX_look_at_mint : DX τ P w K mg base "look_at_mint" 4 1 (FX_look_at_mint ea)) (h : ∀ ds EK, ds.length = 1 → RC_struck ea ds EK → TC_struck ea EK { nx := fun _ => False, rt := fun _ => False } (startD 2 ds)) : DX τ P w K mg base "struck" 5 1 (FC_struck ea) := by
  obtain ⟨f, fd, A⟩ := T.a_struck
  exact A.okX sc_struck rfl (TC_struck ea) (fun cdv A' outer s H E EK rx hr => (pdss_cons (pds_expr (pd_callX dX_look_at_mint hr rx (pda_cons (dv 0) pda_nil))) pdss_never)) h
abbrev N_change : List Str := ["mint", "n", "amount"]
theorem sc_change : FnScope N_change ["mint", "n", "amount"] (defScope s_change) := ⟨rfl, rfl, rfl, by decide +kernel, rfl, by decide +kernel, by decide +kernel⟩
theorem okC_change (T : Top K mg ea fa) (d_look_at_all : DF τ P w K mg base "look_at_all" 5 4 F_look_at_all) (dX_look_at_all : DX τ P w K mg base "look_at_all" 5 4 (FX_look_at_all ea)) (h : ∀ ds EK, ds.length = 3 → RC_change ea ds EK → TC_change ea EK { nx := fun _ => False, rt := fun _ => False } (startD 3 ds)) : DX τ P w K mg base "change" 6 3 (FC_change ea) := by
  obtain ⟨f, fd, A⟩ := T.a_change
  exact A.okX sc_change rfl (TC_change ea) (fun cdv A' outer s H E EK rx hr => (pdss_cons (pds_expr (pd_callX dX_look_at_all hr rx (pda_cons (dv 0) (pda_cons (dv 1) (pda_cons (dv 2) (pda_cons (T.g_WIDE.elim fun _ ht => pd_glob (v := (.int 10000000000000000000000000000000)) rfl ht ⟨_, rfl⟩ fun _ _ => .int _) pda_nil)))))) pdss_never)) h
abbrev N_count_given : List Str := ["mint", "n", "amount"]
theorem sc_count_given : FnScope N_count_given ["mint", "n", "amount"] (defScope s_count_given) := ⟨rfl, rfl, rfl, by decide +kernel, rfl, by decide +kernel, by decide +kernel⟩
theorem okC_count_given (T : Top K mg ea fa) (d_look_at_all : DF τ P w K mg base "look_at_all" 5 4 F_look_at_all) (dX_look_at_all : DX τ P w K mg base "look_at_all" 5 4 (FX_look_at_all ea)) (h : ∀ ds EK, ds.length = 3 → RC_count_given ea ds EK → TC_count_given ea EK { nx := fun _ => False, rt := fun _ => False } (startD 3 ds)) : DX τ P w K mg base "count_given" 6 3 (FC_count_given ea) := by
  obtain ⟨f, fd, A⟩ := T.a_count_given
  exact A.okX sc_count_given rfl (TC_count_given ea) (fun cdv A' outer s H E EK rx hr => (pdss_cons (pds_expr (pd_callX dX_look_at_all hr rx (pda_cons (dv 0) (pda_cons (dv 1) (pda_cons (dv 2) (pda_cons (T.g_WIDE.elim fun _ ht => pd_glob (v := (.int 10000000000000000000000000000000)) rfl ht ⟨_, rfl⟩ fun _ _ => .int _) pda_nil)))))) pdss_never)) h
abbrev N_most_given : List Str := ["mint", "n", "amount"]
theorem sc_most_given : FnScope N_most_given ["mint", "n", "amount"] (defScope s_most_given) := ⟨rfl, rfl, rfl, by decide +kernel, rfl, by decide +kernel, by decide +kernel⟩
theorem okC_most_given (T : Top K mg ea fa) (d_look_at_all : DF τ P w K mg base "look_at_all" 5 4 F_look_at_all) (dX_look_at_all : DX τ P w K mg base "look_at_all" 5 4 (FX_look_at_all ea)) (h : ∀ ds EK, ds.length = 3 → RC_most_given ea ds EK → TC_most_given ea EK { nx := fun _ => False, rt := fun _ => False } (startD 3 ds)) : DX τ P w K mg base "most_given" 6 3 (FC_most_given ea) := by
  obtain ⟨f, fd, A⟩ := T.a_most_given
  exact A.okX sc_most_given rfl (TC_most_given ea) (fun cdv A' outer s H E EK rx hr => (pdss_cons (pds_expr (pd_callX dX_look_at_all hr rx (pda_cons (dv 0) (pda_cons (dv 1) (pda_cons (dv 2) (pda_cons (T.g_WIDE.elim fun _ ht => pd_glob (v := (.int 10000000000000000000000000000000)) rfl ht ⟨_, rfl⟩ fun _ _ => .int _) pda_nil)))))) pdss_never)) h
abbrev N_fewest : List Str := ["mint", "n", "amount"]
theorem sc_fewest : FnScope N_fewest ["mint", "n", "amount"] (defScope s_fewest) := ⟨rfl, rfl, rfl, by decide +kernel, rfl, by decide +kernel, by decide +kernel⟩
theorem okC_fewest (T : Top K mg ea fa) (d_look_at_all : DF τ P w K mg base "look_at_all" 5 4 F_look_at_all) (dX_look_at_all : DX τ P w K mg base "look_at_all" 5 4 (FX_look_at_all ea)) (h : ∀ ds EK, ds.length = 3 → RC_fewest ea ds EK → TC_fewest ea EK { nx := fun _ => False, rt := fun _ => False } (startD 3 ds)) : DX τ P w K mg base "fewest" 6 3 (FC_fewest ea) := by
  obtain ⟨f, fd, A⟩ := T.a_fewest
  exact A.okX sc_fewest rfl (TC_fewest ea) (fun cdv A' outer s H E EK rx hr => (pdss_cons (pds_expr (pd_callX dX_look_at_all hr rx (pda_cons (dv 0) (pda_cons (dv 1) (pda_cons (dv 2) (pda_cons pd_int pda_nil)))))) pdss_never)) h
abbrev N_is_right : List Str := ["mint", "n"]
theorem sc_is_right : FnScope N_is_right ["mint", "n"] (defScope s_is_right) := ⟨rfl, rfl, rfl, by decide +kernel, rfl, by decide +kernel, by decide +kernel⟩
theorem okC_is_right (T : Top K mg ea fa) (d_look_at_both : DF τ P w K mg base "look_at_both" 5 2 F_look_at_both) (dX_look_at_both : DX τ P w K mg base "look_at_both" 5 2 (FX_look_at_both ea)) (h : ∀ ds EK, ds.length = 2 → RC_is_right ea ds EK → TC_is_right ea EK { nx := fun _ => False, rt := fun _ => False } (startD 2 ds)) : DX τ P w K mg base "is_right" 6 2 (FC_is_right ea) := by
  obtain ⟨f, fd, A⟩ := T.a_is_right
  exact A.okX sc_is_right rfl (TC_is_right ea) (fun cdv A' outer s H E EK rx hr => (pdss_cons (pds_expr (pd_callX dX_look_at_both hr rx (pda_cons (dv 0) (pda_cons (dv 1) pda_nil)))) pdss_never)) h
abbrev N_least_bad : List Str := ["mint", "n", "found"]
theorem sc_least_bad : FnScope N_least_bad ["mint", "n"] (defScope s_least_bad) := ⟨rfl, rfl, rfl, by decide +kernel, rfl, by decide +kernel, by decide +kernel⟩
theorem okC_least_bad (T : Top K mg ea fa) (d_look_at_both : DF τ P w K mg base "look_at_both" 5 2 F_look_at_both) (dX_look_at_both : DX τ P w K mg base "look_at_both" 5 2 (FX_look_at_both ea)) (d_look_at_struck : DF τ P w K mg base "look_at_struck" 3 2 F_look_at_struck) (dX_look_at_struck : DX τ P w K mg base "look_at_struck" 3 2 (FX_look_at_struck ea)) (h : ∀ ds EK, ds.length = 2 → RC_least_bad ea ds EK → TC_least_bad ea EK { nx := fun _ => False, rt := fun _ => False } (startD 3 ds)) : DX τ P w K mg base "least_bad" 6 2 (FC_least_bad ea) := by
  obtain ⟨f, fd, A⟩ := T.a_least_bad
  exact A.okX sc_least_bad rfl (TC_least_bad ea) (fun cdv A' outer s H E EK rx hr => (pdss_cons (pds_expr (pd_callX dX_look_at_both hr rx (pda_cons (dv 0) (pda_cons (dv 1) pda_nil)))) (pdss_cons (pds_expr (pd_callX dX_look_at_struck hr rx (pda_cons (dv 0) (pda_cons (dv 1) pda_nil)))) pdss_never))) h
abbrev N_worse_by : List Str := ["mint", "n", "found"]
theorem sc_worse_by : FnScope N_worse_by ["mint", "n"] (defScope s_worse_by) := ⟨rfl, rfl, rfl, by decide +kernel, rfl, by decide +kernel, by decide +kernel⟩
theorem okC_worse_by (T : Top K mg ea fa) (d_look_at_both : DF τ P w K mg base "look_at_both" 5 2 F_look_at_both) (dX_look_at_both : DX τ P w K mg base "look_at_both" 5 2 (FX_look_at_both ea)) (d_look_at_struck : DF τ P w K mg base "look_at_struck" 3 2 F_look_at_struck) (dX_look_at_struck : DX τ P w K mg base "look_at_struck" 3 2 (FX_look_at_struck ea)) (h : ∀ ds EK, ds.length = 2 → RC_worse_by ea ds EK → TC_worse_by ea EK { nx := fun _ => False, rt := fun _ => False } (startD 3 ds)) : DX τ P w K mg base "worse_by" 6 2 (FC_worse_by ea) := by
  obtain ⟨f, fd, A⟩ := T.a_worse_by
  exact A.okX sc_worse_by rfl (TC_worse_by ea) (fun cdv A' outer s H E EK rx hr => (pdss_cons (pds_expr (pd_callX dX_look_at_both hr rx (pda_cons (dv 0) (pda_cons (dv 1) pda_nil)))) (pdss_cons (pds_expr (pd_callX dX_look_at_struck hr rx (pda_cons (dv 0) (pda_cons (dv 1) pda_nil)))) pdss_never))) h
abbrev N_right : List Str := ["mint"]
theorem sc_right : FnScope N_right ["mint"] (defScope s_right) := ⟨rfl, rfl, rfl, by decide +kernel, rfl, by decide +kernel, by decide +kernel⟩
theorem okC_right (T : Top K mg ea fa) (d_look_at_mint : DF τ P w K mg base "look_at_mint" 4 1 F_look_at_mint) (dX_look_at_mint : DX τ P w K mg base "look_at_mint" 4 1 (FX_look_at_mint ea)) (h : ∀ ds EK, ds.length = 1 → RC_right ea ds EK → TC_right ea EK { nx := fun _ => False, rt := fun _ => False } (startD 1 ds)) : DX τ P w K mg base "right" 5 1 (FC_right ea) := by
  obtain ⟨f, fd, A⟩ := T.a_right
  exact A.okX sc_right rfl (TC_right ea) (fun cdv A' outer s H E EK rx hr => (pdss_cons (pds_expr (pd_callX dX_look_at_mint hr rx (pda_cons (dv 0) pda_nil))) pdss_never)) h
abbrev N_always_right : List Str := ["mint"]
theorem sc_always_right : FnScope N_always_right ["mint"] (defScope s_always_right) := ⟨rfl, rfl, rfl, by decide +kernel, rfl, by decide +kernel, by decide +kernel⟩
theorem okC_always_right (T : Top K mg ea fa) (d_look_at_mint : DF τ P w K mg base "look_at_mint" 4 1 F_look_at_mint) (dX_look_at_mint : DX τ P w K mg base "look_at_mint" 4 1 (FX_look_at_mint ea)) (h : ∀ ds EK, ds.length = 1 → RC_always_right ea ds EK → TC_always_right ea EK { nx := fun _ => False, rt := fun _ => False } (startD 1 ds)) : DX τ P w K mg base "always_right" 5 1 (FC_always_right ea) := by
  obtain ⟨f, fd, A⟩ := T.a_always_right
  exact A.okX sc_always_right rfl (TC_always_right ea) (fun cdv A' outer s H E EK rx hr => (pdss_cons (pds_expr (pd_callX dX_look_at_mint hr rx (pda_cons (dv 0) pda_nil))) pdss_never)) h
abbrev N_bad_form : List Str := ["mint"]
theorem sc_bad_form : FnScope N_bad_form ["mint"] (defScope s_bad_form) := ⟨rfl, rfl, rfl, by decide +kernel, rfl, by decide +kernel, by decide +kernel⟩
theorem okC_bad_form (T : Top K mg ea fa) (d_look_at_mint : DF τ P w K mg base "look_at_mint" 4 1 F_look_at_mint) (dX_look_at_mint : DX τ P w K mg base "look_at_mint" 4 1 (FX_look_at_mint ea)) (h : ∀ ds EK, ds.length = 1 → RC_bad_form ea ds EK → TC_bad_form ea EK { nx := fun _ => False, rt := fun _ => False } (startD 1 ds)) : DX τ P w K mg base "bad_form" 5 1 (FC_bad_form ea) := by
  obtain ⟨f, fd, A⟩ := T.a_bad_form
  exact A.okX sc_bad_form rfl (TC_bad_form ea) (fun cdv A' outer s H E EK rx hr => (pdss_cons (pds_expr (pd_callX dX_look_at_mint hr rx (pda_cons (dv 0) pda_nil))) pdss_never)) h
abbrev N_worse_form : List Str := ["mint"]
theorem sc_worse_form : FnScope N_worse_form ["mint"] (defScope s_worse_form) := ⟨rfl, rfl, rfl, by decide +kernel, rfl, by decide +kernel, by decide +kernel⟩
theorem okC_worse_form (T : Top K mg ea fa) (d_look_at_mint : DF τ P w K mg base "look_at_mint" 4 1 F_look_at_mint) (dX_look_at_mint : DX τ P w K mg base "look_at_mint" 4 1 (FX_look_at_mint ea)) (h : ∀ ds EK, ds.length = 1 → RC_worse_form ea ds EK → TC_worse_form ea EK { nx := fun _ => False, rt := fun _ => False } (startD 1 ds)) : DX τ P w K mg base "worse_form" 5 1 (FC_worse_form ea) := by
  obtain ⟨f, fd, A⟩ := T.a_worse_form
  exact A.okX sc_worse_form rfl (TC_worse_form ea) (fun cdv A' outer s H E EK rx hr => (pdss_cons (pds_expr (pd_callX dX_look_at_mint hr rx (pda_cons (dv 0) pda_nil))) pdss_never)) h
abbrev N_count_form : List Str := ["mint", "sum_so", "row", "n"]
theorem sc_count_form : FnScope N_count_form ["mint", "sum_so"] (defScope s_count_form) := ⟨rfl, rfl, rfl, by decide +kernel, rfl, by decide +kernel, by decide +kernel⟩
theorem okC_count_form (T : Top K mg ea fa) (d_look_at_mint : DF τ P w K mg base "look_at_mint" 4 1 F_look_at_mint) (dX_look_at_mint : DX τ P w K mg base "look_at_mint" 4 1 (FX_look_at_mint ea)) (h : ∀ ds EK, ds.length = 2 → RC_count_form ea ds EK → TC_count_form ea EK { nx := fun _ => False, rt := fun _ => False } (startD 4 ds)) : DX τ P w K mg base "count_form" 5 2 (FC_count_form ea) := by
  obtain ⟨f, fd, A⟩ := T.a_count_form
  exact A.okX sc_count_form rfl (TC_count_form ea) (fun cdv A' outer s H E EK rx hr => (pdss_cons (pds_expr (pd_callX dX_look_at_mint hr rx (pda_cons (dv 0) pda_nil))) pdss_never)) h
abbrev N_leavable : List Str := ["mint", "many", "coin"]
theorem sc_leavable : FnScope N_leavable ["mint"] (defScope s_leavable) := ⟨rfl, rfl, rfl, by decide +kernel, rfl, by decide +kernel, by decide +kernel⟩
theorem okC_leavable (T : Top K mg ea fa) (d_look_at_mint : DF τ P w K mg base "look_at_mint" 4 1 F_look_at_mint) (dX_look_at_mint : DX τ P w K mg base "look_at_mint" 4 1 (FX_look_at_mint ea)) (h : ∀ ds EK, ds.length = 1 → RC_leavable ea ds EK → TC_leavable ea EK { nx := fun _ => False, rt := fun _ => False } (startD 3 ds)) : DX τ P w K mg base "leavable" 5 1 (FC_leavable ea) := by
  obtain ⟨f, fd, A⟩ := T.a_leavable
  exact A.okX sc_leavable rfl (TC_leavable ea) (fun cdv A' outer s H E EK rx hr => (pdss_cons (pds_expr (pd_callX dX_look_at_mint hr rx (pda_cons (dv 0) pda_nil))) pdss_never)) h
abbrev N_addable : List Str := ["mint", "menu", "coin", "at"]
theorem sc_addable : FnScope N_addable ["mint", "menu"] (defScope s_addable) := ⟨rfl, rfl, rfl, by decide +kernel, rfl, by decide +kernel, by decide +kernel⟩
theorem okC_addable (T : Top K mg ea fa) (d_look_at_mint : DF τ P w K mg base "look_at_mint" 4 1 F_look_at_mint) (dX_look_at_mint : DX τ P w K mg base "look_at_mint" 4 1 (FX_look_at_mint ea)) (h : ∀ ds EK, ds.length = 2 → RC_addable ea ds EK → TC_addable ea EK { nx := fun _ => False, rt := fun _ => False } (startD 4 ds)) : DX τ P w K mg base "addable" 5 2 (FC_addable ea) := by
  obtain ⟨f, fd, A⟩ := T.a_addable
  exact A.okX sc_addable rfl (TC_addable ea) (fun cdv A' outer s H E EK rx hr => (pdss_cons (pds_expr (pd_callX dX_look_at_mint hr rx (pda_cons (dv 0) pda_nil))) pdss_never)) h
abbrev N_alike : List Str := ["one", "other"]
theorem sc_alike : FnScope N_alike ["one", "other"] (defScope s_alike) := ⟨rfl, rfl, rfl, by decide +kernel, rfl, by decide +kernel, by decide +kernel⟩
theorem okC_alike (T : Top K mg ea fa) (d_look_at_mint : DF τ P w K mg base "look_at_mint" 4 1 F_look_at_mint) (dX_look_at_mint : DX τ P w K mg base "look_at_mint" 4 1 (FX_look_at_mint ea)) (h : ∀ ds EK, ds.length = 2 → RC_alike ea ds EK → TC_alike ea EK { nx := fun _ => False, rt := fun _ => False } (startD 2 ds)) : DX τ P w K mg base "alike" 5 2 (FC_alike ea) := by
  obtain ⟨f, fd, A⟩ := T.a_alike
  exact A.okX sc_alike rfl (TC_alike ea) (fun cdv A' outer s H E EK rx hr => (pdss_cons (pds_expr (pd_callX dX_look_at_mint hr rx (pda_cons (dv 0) pda_nil))) pdss_never)) h
abbrev N_parting : List Str := ["one", "other"]
theorem sc_parting : FnScope N_parting ["one", "other"] (defScope s_parting) := ⟨rfl, rfl, rfl, by decide +kernel, rfl, by decide +kernel, by decide +kernel⟩
theorem okC_parting (T : Top K mg ea fa) (d_look_at_mint : DF τ P w K mg base "look_at_mint" 4 1 F_look_at_mint) (dX_look_at_mint : DX τ P w K mg base "look_at_mint" 4 1 (FX_look_at_mint ea)) (h : ∀ ds EK, ds.length = 2 → RC_parting ea ds EK → TC_parting ea EK { nx := fun _ => False, rt := fun _ => False } (startD 2 ds)) : DX τ P w K mg base "parting" 5 2 (FC_parting ea) := by
  obtain ⟨f, fd, A⟩ := T.a_parting
  exact A.okX sc_parting rfl (TC_parting ea) (fun cdv A' outer s H E EK rx hr => (pdss_cons (pds_expr (pd_callX dX_look_at_mint hr rx (pda_cons (dv 0) pda_nil))) pdss_never)) h
abbrev N_numbers_told : List Str := ["mint", "seen", "sight", "n"]
theorem sc_numbers_told : FnScope N_numbers_told ["mint", "seen"] (defScope s_numbers_told) := ⟨rfl, rfl, rfl, by decide +kernel, rfl, by decide +kernel, by decide +kernel⟩
theorem okC_numbers_told (T : Top K mg ea fa) (d_look_at_mint : DF τ P w K mg base "look_at_mint" 4 1 F_look_at_mint) (dX_look_at_mint : DX τ P w K mg base "look_at_mint" 4 1 (FX_look_at_mint ea)) (h : ∀ ds EK, ds.length = 2 → RC_numbers_told ea ds EK → TC_numbers_told ea EK { nx := fun _ => False, rt := fun _ => False } (startD 4 ds)) : DX τ P w K mg base "numbers_told" 5 2 (FC_numbers_told ea) := by
  obtain ⟨f, fd, A⟩ := T.a_numbers_told
  exact A.okX sc_numbers_told rfl (TC_numbers_told ea) (fun cdv A' outer s H E EK rx hr => (pdss_cons (pds_expr (pd_callX dX_look_at_mint hr rx (pda_cons (dv 0) pda_nil))) pdss_never)) h
abbrev N_mint_text : List Str := ["mint"]
theorem sc_mint_text : FnScope N_mint_text ["mint"] (defScope s_mint_text) := ⟨rfl, rfl, rfl, by decide +kernel, rfl, by decide +kernel, by decide +kernel⟩
theorem okC_mint_text (T : Top K mg ea fa) (d_look_at_mint : DF τ P w K mg base "look_at_mint" 4 1 F_look_at_mint) (dX_look_at_mint : DX τ P w K mg base "look_at_mint" 4 1 (FX_look_at_mint ea)) (h : ∀ ds EK, ds.length = 1 → RC_mint_text ea ds EK → TC_mint_text ea EK { nx := fun _ => False, rt := fun _ => False } (startD 1 ds)) : DX τ P w K mg base "mint_text" 5 1 (FC_mint_text ea) := by
  obtain ⟨f, fd, A⟩ := T.a_mint_text
  exact A.okX sc_mint_text rfl (TC_mint_text ea) (fun cdv A' outer s H E EK rx hr => (pdss_cons (pds_expr (pd_callX dX_look_at_mint hr rx (pda_cons (dv 0) pda_nil))) pdss_never)) h
abbrev N_Till___init__ : List Str := ["self", "mint", "n"]
theorem sc_Till___init__ : FnScope N_Till___init__ ["self", "mint", "n"] (defScope s_Till_init) := ⟨rfl, rfl, rfl, by decide +kernel, rfl, by decide +kernel, by decide +kernel⟩
abbrev N_Mint___init__ : List Str := ["self", "coins", "source"]
theorem sc_Mint___init__ : FnScope N_Mint___init__ ["self", "coins"] (defScope s_Mint_init) := ⟨rfl, rfl, rfl, by decide +kernel, rfl, by decide +kernel, by decide +kernel⟩
theorem okT_init (T : Top K mg ea fa) (d_look_at_mint : DF τ P w K mg base "look_at_mint" 4 1 F_look_at_mint) (dX_look_at_mint : DX τ P w K mg base "look_at_mint" 4 1 (FX_look_at_mint ea)) (d_look_at_number : DF τ P w K mg base "look_at_number" 2 1 F_look_at_number) (dX_look_at_number : DX τ P w K mg base "look_at_number" 2 1 (FX_look_at_number ea)) (d_look_at_struck : DF τ P w K mg base "look_at_struck" 3 2 F_look_at_struck) (dX_look_at_struck : DX τ P w K mg base "look_at_struck" 3 2 (FX_look_at_struck ea)) {f : Addr} {fd : FuncData} (A : MAt K "__init__" "Till.__init__" s_Till_init ["self", "mint", "n"] f fd) : VX τ P w K mg base 5 3 f (FT_init ea) :=
  A.okX sc_Till___init__ rfl (TT_init ea) (fun cdv A' outer s H E EK rx hr => (pdss_cons (pds_expr (pd_callX dX_look_at_mint hr rx (pda_cons (dv 1) pda_nil))) (pdss_cons (pds_expr (pd_callX dX_look_at_number hr rx (pda_cons (dv 2) pda_nil))) (pdss_cons (pds_expr (pd_callX dX_look_at_struck hr rx (pda_cons (dv 1) (pda_cons (dv 2) pda_nil)))) pdss_never)))) (rdT_init ea)
theorem okM_init (T : Top K mg ea fa) (d_look_at_mint : DF τ P w K mg base "look_at_mint" 4 1 F_look_at_mint) (dX_look_at_mint : DX τ P w K mg base "look_at_mint" 4 1 (FX_look_at_mint ea)) (d_in_order : DF τ P w K mg base "in_order" 3 1 F_in_order) {f : Addr} {fd : FuncData} (A : Fun K "__init__" "Mint.__init__" s_Mint_init f fd) : VS τ P w K mg base 5 f (FM_init ea) :=
  okXStar A sc_Mint___init__ (TM_init ea) (fun kV doc pm an cdv ct us rest hl => StX.bind_star1 (B := fun us => bindArgs (PySem.W.fnOf "__init__" "Mint.__init__" (defArgs s_Mint_init) (defBody s_Mint_init) (defScope s_Mint_init) .none kV doc pm an cdv ct) ⟨us, []⟩) (fun a => rfl) (fun a r rs => rfl) us rest hl) (fun cdv A' outer s H E EK rx hr => (pdss_cons (pds_set 2 (pd_callD d_in_order hr (pda_cons (dv 1) pda_nil)) sc_Mint___init__.nd) (pdss_cons (pds_expr (pd_callX dX_look_at_mint hr rx (pda_cons (dv 2) pda_nil))) pdss_never))) (rdM_init ea)
theorem sc__law_came : FnScope ["call_so", "e"] ["call_so"] (defScope s__law_came) := ⟨rfl, rfl, rfl, by decide +kernel, rfl, by decide +kernel, by decide +kernel⟩
theorem pdc {X : Cx} {H0 : Hp} {k : Nat} {tb : (Addr → Prop) → DE} {params : Arguments} {body : Expr} {scope : Scope} {p lpos pos : Pos} (T : Top X.K X.mg ea fa) (d : DErr τ X.prog X.w X.K X.mg X.base "_law_error_of" 1 (ErrIs X.K ea)) (m : MkL τ X H0) (hr : Room (k + 2) X.A) (L : LamS X.env.scope scope) (hdef : defaultsOf params X.env = ([], []))
    (hbind : ∀ (q : Str) (cl : List (Str × Addr)) (pm cv ctv : Value), bindArgs (PySem.W.kla_fn "<lambda>" q params body scope cl pm cv ctv) ⟨[], []⟩ = pure [])
    (hbody : ∀ (A : Around) (outer : List Env) (s : Shared) (H : Hp) (E : XK) (f c' : Addr) (H0 : Hp) (EK : Addr → Prop), RX τ (lamN X A outer s H E scope f c') H0 EK → Room k (A.deeper (lamEnv X scope s.heap.objs.size f c')) → PD τ (lamN X A outer s H E scope f c') H0 body (tb EK))
    (hg : Gl X "_law_came" := by rfl) : PD τ X H0 (.Call (.Name "_law_came" p) [.Lambda params body scope lpos] [] pos) (dCame X.K ea tb) := by
  obtain ⟨g, fd, A⟩ := T.a__law_came
  obtain ⟨c, P, hT, TB, hc, hm, hu⟩ := m
  exact pd_came (k := k) hT A sc__law_came rfl (.inl rfl) (fun cdv => came_gives d (hr.mono (by omega)) T.errs.g_MintError rfl rfl rfl rfl rfl sc__law_came.nd rfl rfl rfl) TB hc hm hu hr L hdef hbind hbody hg
theorem ok__law_came (T : Top K mg ea fa) (d : DErr τ P w K mg base "_law_error_of" 1 (ErrIs K ea)) : DF τ P w K mg base "_law_came" 10 1 (FCame τ P w K mg base ea 8) := by
  obtain ⟨f, fd, A⟩ := T.a__law_came
  refine okCame A sc__law_came (.inl rfl) fun X q cdv x1 x2 x3 x4 x5 hr => ?_
  subst x1 x2 x3 x4 x5
  exact came_gives d (hr.mono (by decide)) T.errs.g_MintError rfl rfl rfl rfl rfl sc__law_came.nd rfl rfl rfl
abbrev N__law_all_say : List Str := ["calls_so", "word", "call_so"]
theorem sc__law_all_say : FnScope N__law_all_say ["calls_so", "word"] (defScope s__law_all_say) := ⟨rfl, rfl, rfl, by decide +kernel, rfl, by decide +kernel, by decide +kernel⟩
theorem ok__law_all_say (T : Top K mg ea fa) (d__law_came : DF τ P w K mg base "_law_came" 10 1 (FCame τ P w K mg base ea 8)) : DF τ P w K mg base "_law_all_say" 11 2 (F__law_all_say τ P w K mg base ea) := by
  obtain ⟨f, fd, A⟩ := T.a__law_all_say
  exact A.ok sc__law_all_say rfl (T__law_all_say (FCame τ P w K mg base ea 8)) (fun cdv A' outer s H E hr => (pdss_one (pds_ret (pd_cmp (od_eq hr.units) (pd_lc (own := [("call_so", 2)]) sc__law_all_say.nd (pdi_seq (dv 0)) (blkOk_by (N := N__law_all_say) (sc := defScope s__law_all_say) (own := [("call_so", 2)]) (by decide +kernel)) (fun _ _ _ _ _ => (pdg_name 2 sc__law_all_say.nd)) (fun _ _ _ _ _ => (pdts_one (pdt_cmp (od_ne hr.units) (pd_callD d__law_came hr (pda_cons (dv 2) pda_nil)) (dv 1) (nomark _)))) (fun _ _ _ _ _ => pd_int)) (pd_lst pda_nil) (nomark _))))) rd__law_all_say
abbrev N__law_of_mint : List Str := ["mint", "found"]
theorem sc__law_of_mint : FnScope N__law_of_mint ["mint"] (defScope s__law_of_mint) := ⟨rfl, rfl, rfl, by decide +kernel, rfl, by decide +kernel, by decide +kernel⟩
theorem ok__law_of_mint (T : Top K mg ea fa) (E12 : ErrAll K ea) (dC_is_struck : DX τ P w K mg base "is_struck" 5 2 (FC_is_struck ea)) (dC_worths : DX τ P w K mg base "worths" 5 2 (FC_worths ea)) (dC_struck : DX τ P w K mg base "struck" 5 1 (FC_struck ea)) (dC_change : DX τ P w K mg base "change" 6 3 (FC_change ea)) (dC_count_given : DX τ P w K mg base "count_given" 6 3 (FC_count_given ea)) (dC_most_given : DX τ P w K mg base "most_given" 6 3 (FC_most_given ea)) (dC_fewest : DX τ P w K mg base "fewest" 6 3 (FC_fewest ea)) (dC_is_right : DX τ P w K mg base "is_right" 6 2 (FC_is_right ea)) (dC_least_bad : DX τ P w K mg base "least_bad" 6 2 (FC_least_bad ea)) (dC_worse_by : DX τ P w K mg base "worse_by" 6 2 (FC_worse_by ea)) (dC_right : DX τ P w K mg base "right" 5 1 (FC_right ea)) (dC_always_right : DX τ P w K mg base "always_right" 5 1 (FC_always_right ea)) (dC_bad_form : DX τ P w K mg base "bad_form" 5 1 (FC_bad_form ea)) (dC_worse_form : DX τ P w K mg base "worse_form" 5 1 (FC_worse_form ea)) (dC_count_form : DX τ P w K mg base "count_form" 5 2 (FC_count_form ea)) (dC_leavable : DX τ P w K mg base "leavable" 5 1 (FC_leavable ea)) (dC_addable : DX τ P w K mg base "addable" 5 2 (FC_addable ea)) (dC_alike : DX τ P w K mg base "alike" 5 2 (FC_alike ea)) (dC_parting : DX τ P w K mg base "parting" 5 2 (FC_parting ea)) (dC_numbers_told : DX τ P w K mg base "numbers_told" 5 2 (FC_numbers_told ea)) (dC_mint_text : DX τ P w K mg base "mint_text" 5 1 (FC_mint_text ea)) {CT fT : Addr} (cT : CAt K mg "Till" CT fT) (dT : VX τ P w K mg base 5 3 fT (FT_init ea)) (S : LawSt K mg base τ "_law_of_mint" s__law_of_mint) (A : At K mg "_law_of_mint" s__law_of_mint ["mint"] S.f S.fd) : DM τ P w K mg base "_law_of_mint" 1 1 (F__law_of_mint τ P w K mg base ea) :=
  okMaker (ps := ["mint"]) S A sc__law_of_mint (by decide) (by decide +kernel) fun A' outer s H E vs ds s1 σ hvl hdl hc hfl M I h1 => mk_new (j := 1) M (lamS_by (sc := defScope s__law_of_mint) (by decide +kernel)) (fun _ _ il => gd_mk il (lamS_by (sc := defScope s__law_of_mint) (by decide +kernel)) (by decide +kernel) cells_inj (fun _ _ _ => rfl) hfl (fun _ _ _ _ _ _ _ _ _ rx hr => (pd_callX dC_is_struck hr rx (pda_cons (dv 0) (pda_cons pd_non pda_nil)))) E12.mint (h_law_of_mint_0 hc))
    (mk_app (j := 1) M (lamS_by (sc := defScope s__law_of_mint) (by decide +kernel)) (fun _ _ il => gd_mk il (lamS_by (sc := defScope s__law_of_mint) (by decide +kernel)) (by decide +kernel) cells_inj (fun _ _ _ => rfl) hfl (fun _ _ _ _ _ _ _ _ _ rx hr => (pd_callX dC_worths hr rx (pda_cons (dv 0) (pda_cons pd_non pda_nil)))) E12.mint (h_law_of_mint_1 hc))
    (mk_app (j := 1) M (lamS_by (sc := defScope s__law_of_mint) (by decide +kernel)) (fun _ _ il => gd_mk il (lamS_by (sc := defScope s__law_of_mint) (by decide +kernel)) (by decide +kernel) cells_inj (fun _ _ _ => rfl) hfl (fun _ _ _ _ _ _ _ _ _ rx hr => (pd_callX dC_struck hr rx (pda_cons (dv 0) pda_nil))) E12.mint (h_law_of_mint_2 hc))
    (mk_app (j := 1) M (lamS_by (sc := defScope s__law_of_mint) (by decide +kernel)) (fun _ _ il => gd_mk il (lamS_by (sc := defScope s__law_of_mint) (by decide +kernel)) (by decide +kernel) cells_inj (fun _ _ _ => rfl) hfl (fun _ _ _ _ _ _ _ _ _ rx hr => (pd_callX dC_change hr rx (pda_cons (dv 0) (pda_cons pd_non (pda_cons pd_non pda_nil))))) E12.mint (h_law_of_mint_3 hc))
    (mk_app (j := 1) M (lamS_by (sc := defScope s__law_of_mint) (by decide +kernel)) (fun _ _ il => gd_mk il (lamS_by (sc := defScope s__law_of_mint) (by decide +kernel)) (by decide +kernel) cells_inj (fun _ _ _ => rfl) hfl (fun _ _ _ _ _ _ _ _ _ rx hr => (pd_callX dC_count_given hr rx (pda_cons (dv 0) (pda_cons pd_non (pda_cons pd_non pda_nil))))) E12.mint (h_law_of_mint_4 hc))
    (mk_app (j := 1) M (lamS_by (sc := defScope s__law_of_mint) (by decide +kernel)) (fun _ _ il => gd_mk il (lamS_by (sc := defScope s__law_of_mint) (by decide +kernel)) (by decide +kernel) cells_inj (fun _ _ _ => rfl) hfl (fun _ _ _ _ _ _ _ _ _ rx hr => (pd_callX dC_most_given hr rx (pda_cons (dv 0) (pda_cons pd_non (pda_cons pd_non pda_nil))))) E12.mint (h_law_of_mint_5 hc))
    (mk_app (j := 1) M (lamS_by (sc := defScope s__law_of_mint) (by decide +kernel)) (fun _ _ il => gd_mk il (lamS_by (sc := defScope s__law_of_mint) (by decide +kernel)) (by decide +kernel) cells_inj (fun _ _ _ => rfl) hfl (fun _ _ _ _ _ _ _ _ _ rx hr => (pd_callX dC_fewest hr rx (pda_cons (dv 0) (pda_cons pd_non (pda_cons pd_non pda_nil))))) E12.mint (h_law_of_mint_6 hc))
    (mk_app (j := 1) M (lamS_by (sc := defScope s__law_of_mint) (by decide +kernel)) (fun _ _ il => gd_mk il (lamS_by (sc := defScope s__law_of_mint) (by decide +kernel)) (by decide +kernel) cells_inj (fun _ _ _ => rfl) hfl (fun _ _ _ _ _ _ _ _ _ rx hr => (pd_callX dC_is_right hr rx (pda_cons (dv 0) (pda_cons pd_non pda_nil)))) E12.mint (h_law_of_mint_7 hc))
    (mk_app (j := 1) M (lamS_by (sc := defScope s__law_of_mint) (by decide +kernel)) (fun _ _ il => gd_mk il (lamS_by (sc := defScope s__law_of_mint) (by decide +kernel)) (by decide +kernel) cells_inj (fun _ _ _ => rfl) hfl (fun _ _ _ _ _ _ _ _ _ rx hr => (pd_callX dC_least_bad hr rx (pda_cons (dv 0) (pda_cons pd_non pda_nil)))) E12.mint (h_law_of_mint_8 hc))
    (mk_app (j := 1) M (lamS_by (sc := defScope s__law_of_mint) (by decide +kernel)) (fun _ _ il => gd_mk il (lamS_by (sc := defScope s__law_of_mint) (by decide +kernel)) (by decide +kernel) cells_inj (fun _ _ _ => rfl) hfl (fun _ _ _ _ _ _ _ _ _ rx hr => (pd_callX dC_worse_by hr rx (pda_cons (dv 0) (pda_cons pd_non pda_nil)))) E12.mint (h_law_of_mint_9 hc))
    (mk_app (j := 1) M (lamS_by (sc := defScope s__law_of_mint) (by decide +kernel)) (fun _ _ il => gd_mk il (lamS_by (sc := defScope s__law_of_mint) (by decide +kernel)) (by decide +kernel) cells_inj (fun _ _ _ => rfl) hfl (fun _ _ _ _ _ _ _ _ _ rx hr => (pd_callX dC_right hr rx (pda_cons (dv 0) pda_nil))) E12.mint (h_law_of_mint_10 hc))
    (mk_app (j := 1) M (lamS_by (sc := defScope s__law_of_mint) (by decide +kernel)) (fun _ _ il => gd_mk il (lamS_by (sc := defScope s__law_of_mint) (by decide +kernel)) (by decide +kernel) cells_inj (fun _ _ _ => rfl) hfl (fun _ _ _ _ _ _ _ _ _ rx hr => (pd_callX dC_always_right hr rx (pda_cons (dv 0) pda_nil))) E12.mint (h_law_of_mint_11 hc))
    (mk_app (j := 1) M (lamS_by (sc := defScope s__law_of_mint) (by decide +kernel)) (fun _ _ il => gd_mk il (lamS_by (sc := defScope s__law_of_mint) (by decide +kernel)) (by decide +kernel) cells_inj (fun _ _ _ => rfl) hfl (fun _ _ _ _ _ _ _ _ _ rx hr => (pd_callX dC_bad_form hr rx (pda_cons (dv 0) pda_nil))) E12.mint (h_law_of_mint_12 hc))
    (mk_app (j := 1) M (lamS_by (sc := defScope s__law_of_mint) (by decide +kernel)) (fun _ _ il => gd_mk il (lamS_by (sc := defScope s__law_of_mint) (by decide +kernel)) (by decide +kernel) cells_inj (fun _ _ _ => rfl) hfl (fun _ _ _ _ _ _ _ _ _ rx hr => (pd_callX dC_worse_form hr rx (pda_cons (dv 0) pda_nil))) E12.mint (h_law_of_mint_13 hc))
    (mk_app (j := 1) M (lamS_by (sc := defScope s__law_of_mint) (by decide +kernel)) (fun _ _ il => gd_mk il (lamS_by (sc := defScope s__law_of_mint) (by decide +kernel)) (by decide +kernel) cells_inj (fun _ _ _ => rfl) hfl (fun _ _ _ _ _ _ _ _ _ rx hr => (pd_callX dC_count_form hr rx (pda_cons (dv 0) (pda_cons pd_non pda_nil)))) E12.mint (h_law_of_mint_14 hc))
    (mk_app (j := 1) M (lamS_by (sc := defScope s__law_of_mint) (by decide +kernel)) (fun _ _ il => gd_mk il (lamS_by (sc := defScope s__law_of_mint) (by decide +kernel)) (by decide +kernel) cells_inj (fun _ _ _ => rfl) hfl (fun _ _ _ _ _ _ _ _ _ rx hr => (pd_callX dC_leavable hr rx (pda_cons (dv 0) pda_nil))) E12.mint (h_law_of_mint_15 hc))
    (mk_app (j := 1) M (lamS_by (sc := defScope s__law_of_mint) (by decide +kernel)) (fun _ _ il => gd_mk il (lamS_by (sc := defScope s__law_of_mint) (by decide +kernel)) (by decide +kernel) cells_inj (fun _ _ _ => rfl) hfl (fun _ _ _ _ _ _ _ _ _ rx hr => (pd_callX dC_addable hr rx (pda_cons (dv 0) (pda_cons pd_non pda_nil)))) E12.mint (h_law_of_mint_16 hc))
    (mk_app (j := 1) M (lamS_by (sc := defScope s__law_of_mint) (by decide +kernel)) (fun _ _ il => gd_mk il (lamS_by (sc := defScope s__law_of_mint) (by decide +kernel)) (by decide +kernel) cells_inj (fun _ _ _ => rfl) hfl (fun _ _ _ _ _ _ _ _ _ rx hr => (pd_callX dC_alike hr rx (pda_cons (dv 0) (pda_cons pd_non pda_nil)))) E12.mint (h_law_of_mint_17 hc))
    (mk_app (j := 1) M (lamS_by (sc := defScope s__law_of_mint) (by decide +kernel)) (fun _ _ il => gd_mk il (lamS_by (sc := defScope s__law_of_mint) (by decide +kernel)) (by decide +kernel) cells_inj (fun _ _ _ => rfl) hfl (fun _ _ _ _ _ _ _ _ _ rx hr => (pd_callX dC_parting hr rx (pda_cons (dv 0) (pda_cons pd_non pda_nil)))) E12.mint (h_law_of_mint_18 hc))
    (mk_app (j := 1) M (lamS_by (sc := defScope s__law_of_mint) (by decide +kernel)) (fun _ _ il => gd_mk il (lamS_by (sc := defScope s__law_of_mint) (by decide +kernel)) (by decide +kernel) cells_inj (fun _ _ _ => rfl) hfl (fun _ _ _ _ _ _ _ _ _ rx hr => (pd_callX dC_numbers_told hr rx (pda_cons (dv 0) (pda_cons pd_non pda_nil)))) E12.mint (h_law_of_mint_19 hc))
    (mk_app (j := 1) M (lamS_by (sc := defScope s__law_of_mint) (by decide +kernel)) (fun _ _ il => gd_mk il (lamS_by (sc := defScope s__law_of_mint) (by decide +kernel)) (by decide +kernel) cells_inj (fun _ _ _ => rfl) hfl (fun _ _ _ _ _ _ _ _ _ rx hr => (pd_callX dC_mint_text hr rx (pda_cons (dv 0) pda_nil))) E12.mint (h_law_of_mint_20 hc))
    (mk_app (j := 1) M (lamS_by (sc := defScope s__law_of_mint) (by decide +kernel)) (fun _ _ il => gd_mk il (lamS_by (sc := defScope s__law_of_mint) (by decide +kernel)) (by decide +kernel) cells_inj (fun _ _ _ => rfl) hfl (fun _ _ _ _ _ _ _ _ _ rx hr => (pd_makeX cT dT hr rx (pda_cons (dv 0) (pda_cons pd_non pda_nil)))) E12.mint (h_law_of_mint_21 hc))
    (mk_ret (j := 1))))))))))))))))))))))) (by decide) (by rw [hvl]; exact Nat.le_refl _) rfl sc__law_of_mint.nd rfl (.inl rfl) rfl (.inl rfl) rfl I h1 (Same.refl _)
abbrev N__law_of_number : List Str := ["mint", "n", "found"]
theorem sc__law_of_number : FnScope N__law_of_number ["mint", "n"] (defScope s__law_of_number) := ⟨rfl, rfl, rfl, by decide +kernel, rfl, by decide +kernel, by decide +kernel⟩
theorem ok__law_of_number (T : Top K mg ea fa) (E12 : ErrAll K ea) (dC_is_struck : DX τ P w K mg base "is_struck" 5 2 (FC_is_struck ea)) (dC_worths : DX τ P w K mg base "worths" 5 2 (FC_worths ea)) (dC_struck : DX τ P w K mg base "struck" 5 1 (FC_struck ea)) (dC_change : DX τ P w K mg base "change" 6 3 (FC_change ea)) (dC_count_given : DX τ P w K mg base "count_given" 6 3 (FC_count_given ea)) (dC_most_given : DX τ P w K mg base "most_given" 6 3 (FC_most_given ea)) (dC_fewest : DX τ P w K mg base "fewest" 6 3 (FC_fewest ea)) (dC_is_right : DX τ P w K mg base "is_right" 6 2 (FC_is_right ea)) (dC_least_bad : DX τ P w K mg base "least_bad" 6 2 (FC_least_bad ea)) (dC_worse_by : DX τ P w K mg base "worse_by" 6 2 (FC_worse_by ea)) (dC_right : DX τ P w K mg base "right" 5 1 (FC_right ea)) (dC_always_right : DX τ P w K mg base "always_right" 5 1 (FC_always_right ea)) (dC_bad_form : DX τ P w K mg base "bad_form" 5 1 (FC_bad_form ea)) (dC_worse_form : DX τ P w K mg base "worse_form" 5 1 (FC_worse_form ea)) (dC_count_form : DX τ P w K mg base "count_form" 5 2 (FC_count_form ea)) (dC_leavable : DX τ P w K mg base "leavable" 5 1 (FC_leavable ea)) (dC_addable : DX τ P w K mg base "addable" 5 2 (FC_addable ea)) (dC_alike : DX τ P w K mg base "alike" 5 2 (FC_alike ea)) (dC_parting : DX τ P w K mg base "parting" 5 2 (FC_parting ea)) (dC_numbers_told : DX τ P w K mg base "numbers_told" 5 2 (FC_numbers_told ea)) (dC_mint_text : DX τ P w K mg base "mint_text" 5 1 (FC_mint_text ea)) {CT fT : Addr} (cT : CAt K mg "Till" CT fT) (dT : VX τ P w K mg base 5 3 fT (FT_init ea)) (S : LawSt K mg base τ "_law_of_number" s__law_of_number) (A : At K mg "_law_of_number" s__law_of_number ["mint", "n"] S.f S.fd) : DM τ P w K mg base "_law_of_number" 1 2 (F__law_of_number τ P w K mg base ea) :=
  okMaker (ps := ["mint", "n"]) S A sc__law_of_number (by decide) (by decide +kernel) fun A' outer s H E vs ds s1 σ hvl hdl hc hfl M I h1 => mk_new (j := 2) M (lamS_by (sc := defScope s__law_of_number) (by decide +kernel)) (fun _ _ il => gd_mk il (lamS_by (sc := defScope s__law_of_number) (by decide +kernel)) (by decide +kernel) cells_inj (fun _ _ _ => rfl) hfl (fun _ _ _ _ _ _ _ _ _ rx hr => (pd_callX dC_change hr rx (pda_cons (dv 0) (pda_cons (dv 1) (pda_cons pd_non pda_nil))))) E12.number (h_law_of_number_0 hc))
    (mk_app (j := 2) M (lamS_by (sc := defScope s__law_of_number) (by decide +kernel)) (fun _ _ il => gd_mk il (lamS_by (sc := defScope s__law_of_number) (by decide +kernel)) (by decide +kernel) cells_inj (fun _ _ _ => rfl) hfl (fun _ _ _ _ _ _ _ _ _ rx hr => (pd_callX dC_count_given hr rx (pda_cons (dv 0) (pda_cons (dv 1) (pda_cons pd_non pda_nil))))) E12.number (h_law_of_number_1 hc))
    (mk_app (j := 2) M (lamS_by (sc := defScope s__law_of_number) (by decide +kernel)) (fun _ _ il => gd_mk il (lamS_by (sc := defScope s__law_of_number) (by decide +kernel)) (by decide +kernel) cells_inj (fun _ _ _ => rfl) hfl (fun _ _ _ _ _ _ _ _ _ rx hr => (pd_callX dC_most_given hr rx (pda_cons (dv 0) (pda_cons (dv 1) (pda_cons pd_non pda_nil))))) E12.number (h_law_of_number_2 hc))
    (mk_app (j := 2) M (lamS_by (sc := defScope s__law_of_number) (by decide +kernel)) (fun _ _ il => gd_mk il (lamS_by (sc := defScope s__law_of_number) (by decide +kernel)) (by decide +kernel) cells_inj (fun _ _ _ => rfl) hfl (fun _ _ _ _ _ _ _ _ _ rx hr => (pd_callX dC_fewest hr rx (pda_cons (dv 0) (pda_cons (dv 1) (pda_cons pd_non pda_nil))))) E12.number (h_law_of_number_3 hc))
    (mk_app (j := 2) M (lamS_by (sc := defScope s__law_of_number) (by decide +kernel)) (fun _ _ il => gd_mk il (lamS_by (sc := defScope s__law_of_number) (by decide +kernel)) (by decide +kernel) cells_inj (fun _ _ _ => rfl) hfl (fun _ _ _ _ _ _ _ _ _ rx hr => (pd_callX dC_is_right hr rx (pda_cons (dv 0) (pda_cons (dv 1) pda_nil)))) E12.number (h_law_of_number_4 hc))
    (mk_app (j := 2) M (lamS_by (sc := defScope s__law_of_number) (by decide +kernel)) (fun _ _ il => gd_mk il (lamS_by (sc := defScope s__law_of_number) (by decide +kernel)) (by decide +kernel) cells_inj (fun _ _ _ => rfl) hfl (fun _ _ _ _ _ _ _ _ _ rx hr => (pd_callX dC_least_bad hr rx (pda_cons (dv 0) (pda_cons (dv 1) pda_nil)))) E12.number (h_law_of_number_5 hc))
    (mk_app (j := 2) M (lamS_by (sc := defScope s__law_of_number) (by decide +kernel)) (fun _ _ il => gd_mk il (lamS_by (sc := defScope s__law_of_number) (by decide +kernel)) (by decide +kernel) cells_inj (fun _ _ _ => rfl) hfl (fun _ _ _ _ _ _ _ _ _ rx hr => (pd_callX dC_worse_by hr rx (pda_cons (dv 0) (pda_cons (dv 1) pda_nil)))) E12.number (h_law_of_number_6 hc))
    (mk_app (j := 2) M (lamS_by (sc := defScope s__law_of_number) (by decide +kernel)) (fun _ _ il => gd_mk il (lamS_by (sc := defScope s__law_of_number) (by decide +kernel)) (by decide +kernel) cells_inj (fun _ _ _ => rfl) hfl (fun _ _ _ _ _ _ _ _ _ rx hr => (pd_callX dC_is_struck hr rx (pda_cons (dv 0) (pda_cons (dv 1) pda_nil)))) E12.number (h_law_of_number_7 hc))
    (mk_app (j := 2) M (lamS_by (sc := defScope s__law_of_number) (by decide +kernel)) (fun _ _ il => gd_mk il (lamS_by (sc := defScope s__law_of_number) (by decide +kernel)) (by decide +kernel) cells_inj (fun _ _ _ => rfl) hfl (fun _ _ _ _ _ _ _ _ _ rx hr => (pd_callX dC_worths hr rx (pda_cons (dv 0) (pda_cons (dv 1) pda_nil)))) E12.number (h_law_of_number_8 hc))
    (mk_app (j := 2) M (lamS_by (sc := defScope s__law_of_number) (by decide +kernel)) (fun _ _ il => gd_mk il (lamS_by (sc := defScope s__law_of_number) (by decide +kernel)) (by decide +kernel) cells_inj (fun _ _ _ => rfl) hfl (fun _ _ _ _ _ _ _ _ _ rx hr => (pd_makeX cT dT hr rx (pda_cons (dv 0) (pda_cons (dv 1) pda_nil)))) E12.number (h_law_of_number_9 hc))
    (mk_ret (j := 2))))))))))) (by decide) (by rw [hvl]; exact Nat.le_refl _) rfl sc__law_of_number.nd rfl (.inl rfl) rfl (.inl rfl) rfl I h1 (Same.refl _)
abbrev N_law : List Str := ["script", "at", "spring", "mint", "odds", "odd", "flat", "some", "coins"]
theorem sc_law : FnScope N_law ["script"] (defScope s_law) := ⟨rfl, rfl, rfl, by decide +kernel, rfl, by decide +kernel, by decide +kernel⟩
theorem cell_law : ∀ p ∈ (["flat"] : List Str), (defScope s_law).names.lookup p = some .cell := by decide +kernel
theorem ok_law (T : Top K mg ea fa) (E12 : ErrAll K ea) (d__law_spring : SF τ P w K mg base 1) (d__law_mint : DF τ P w K mg base "_law_mint" 3 2 F__law_mint) (d__law_error_of : DErr τ P w K mg base "_law_error_of" 1 (ErrIs K ea)) (d__law_all_say : DF τ P w K mg base "_law_all_say" 11 2 (F__law_all_say τ P w K mg base ea)) (d__law_of_mint : DM τ P w K mg base "_law_of_mint" 1 1 (F__law_of_mint τ P w K mg base ea)) (d__law_of_number : DM τ P w K mg base "_law_of_number" 1 2 (F__law_of_number τ P w K mg base ea)) (dC_is_struck : DX τ P w K mg base "is_struck" 5 2 (FC_is_struck ea)) (dC_worths : DX τ P w K mg base "worths" 5 2 (FC_worths ea)) (dC_struck : DX τ P w K mg base "struck" 5 1 (FC_struck ea)) (dC_change : DX τ P w K mg base "change" 6 3 (FC_change ea)) (dC_count_given : DX τ P w K mg base "count_given" 6 3 (FC_count_given ea)) (dC_most_given : DX τ P w K mg base "most_given" 6 3 (FC_most_given ea)) (dC_fewest : DX τ P w K mg base "fewest" 6 3 (FC_fewest ea)) (dC_is_right : DX τ P w K mg base "is_right" 6 2 (FC_is_right ea)) (dC_least_bad : DX τ P w K mg base "least_bad" 6 2 (FC_least_bad ea)) (dC_worse_by : DX τ P w K mg base "worse_by" 6 2 (FC_worse_by ea)) (dC_right : DX τ P w K mg base "right" 5 1 (FC_right ea)) (dC_always_right : DX τ P w K mg base "always_right" 5 1 (FC_always_right ea)) (dC_bad_form : DX τ P w K mg base "bad_form" 5 1 (FC_bad_form ea)) (dC_worse_form : DX τ P w K mg base "worse_form" 5 1 (FC_worse_form ea)) (dC_count_form : DX τ P w K mg base "count_form" 5 2 (FC_count_form ea)) (dC_leavable : DX τ P w K mg base "leavable" 5 1 (FC_leavable ea)) (dC_addable : DX τ P w K mg base "addable" 5 2 (FC_addable ea)) (dC_alike : DX τ P w K mg base "alike" 5 2 (FC_alike ea)) (dC_parting : DX τ P w K mg base "parting" 5 2 (FC_parting ea)) (dC_numbers_told : DX τ P w K mg base "numbers_told" 5 2 (FC_numbers_told ea)) (dC_mint_text : DX τ P w K mg base "mint_text" 5 1 (FC_mint_text ea)) {CT fT : Addr} (cT : CAt K mg "Till" CT fT) (dT : VX τ P w K mg base 5 3 fT (FT_init ea)) {CM fM : Addr} (cM : CAt K mg "Mint" CM fM) (dM : VS τ P w K mg base 5 fM (FM_init ea)) (S : LawSt K mg base τ "law" s_law)
    (h : ∀ cl a ns (Q : DK), ns.length ≤ 63 → Q (.bl true) → T_law τ P w mg base K ea cl a ns { nx := fun _ => Q .non, rt := Q } (startD 9 [.raw (.ref a)])) : FnOk P w K mg base CX0 13 S.f S.fd ["script"] (SpLawT τ K) := by
  exact okLawC S sc_law rfl (fun cl a ns => T_law τ P w mg base K ea cl a ns) (fun A' outer s H E a ns hS mk hr =>
    (pdss_cons (pds_for (vs := [1]) (pdi_range1 rfl T.m_range (pda_cons (pd_op od_add (pd_callB (cd_min rfl) rfl T.m_min b_min (pda_cons (pd_lenS 0 hS T.m_len) (pda_cons pd_int pda_nil))) pd_int) pda_nil)) (pdg_name 1 sc_law.nd) (pdss_cons (pds_set 2 (pd_callS 0 1 hS d__law_spring hr) sc_law.nd)
    (pdss_cons (pds_set 3 (pd_callD d__law_mint hr (pda_cons (dv 2) (pda_cons pd_int pda_nil))) sc_law.nd)
    (pdss_cons (pds_set 4 (pd_lst (pda_cons pd_non (pda_cons (pd_tup pda_nil) (pda_cons (pd_callTy cd_list rfl T.m_list b_list (pda_cons (dv 3) pda_nil)) (pda_cons (pd_ix (fun _ _ => rfl) (dv 3) pd_int) (pda_cons (pd_op od_add (dv 3) (dv 3)) (pda_cons pd_str (pda_cons (pd_tup (pda_cons (pd_tup (pda_cons pd_int (pda_cons pd_int pda_nil))) pda_nil)) (pda_cons (pd_tup (pda_cons (pd_tup (pda_cons pd_int (pda_cons pd_int pda_nil))) pda_nil)) (pda_cons (pd_tup (pda_cons (pd_tup (pda_cons pd_int (pda_cons (pd_neg pd_int) pda_nil))) pda_nil)) (pda_cons (pd_tup (pda_cons (pd_tup (pda_cons pd_int (pda_cons pd_int pda_nil))) pda_nil)) pda_nil))))))))))) sc_law.nd)
    (pdss_cons (pds_set 4 (pd_op od_add (dv 4) (pd_lst (pda_cons (pd_tup (pda_cons (pd_tup (pda_cons pd_int (pda_cons pd_int pda_nil))) (pda_cons (pd_tup (pda_cons pd_int (pda_cons pd_int pda_nil))) (pda_cons (pd_tup (pda_cons pd_int (pda_cons pd_int pda_nil))) (pda_cons (pd_tup (pda_cons pd_int (pda_cons pd_int pda_nil))) (pda_cons (pd_tup (pda_cons pd_int (pda_cons pd_int pda_nil))) pda_nil)))))) (pda_cons (pd_tup (pda_cons (pd_tup (pda_cons pd_int (pda_cons pd_int pda_nil))) (pda_cons (pd_tup (pda_cons pd_int (pda_cons pd_int pda_nil))) pda_nil))) (pda_cons (pd_tup (pda_cons (pd_tup (pda_cons pd_bl (pda_cons pd_int pda_nil))) pda_nil)) (pda_cons (pd_tup (pda_cons (pd_tup (pda_cons pd_int pda_nil)) pda_nil)) (pda_cons (pd_tup (pda_cons pd_non pda_nil)) pda_nil))))))) sc_law.nd)
    (pdss_cons (pds_for (vs := [5]) (pdi_seq (dv 4)) (pdg_name 5 sc_law.nd) (pdss_one (pds_if (pdt_not (pdt_val (pd_callD d__law_all_say hr (pda_cons (pd_callM d__law_of_mint mk hr (pda_cons (dv 5) pda_nil)) (pda_cons pd_str pda_nil))))) (pdss_one (pds_ret pd_bl)) pdss_nil)))
    (pdss_cons (pds_for (vs := [5]) (pdi_seq (pd_lst (pda_cons pd_non (pda_cons pd_int (pda_cons (pd_neg pd_int) (pda_cons (pd_op od_add (pd_op od_pow pd_int pd_int) pd_int) (pda_cons pd_bl (pda_cons pd_str pda_nil)))))))) (pdg_name 5 sc_law.nd) (pdss_one (pds_if (pdt_not (pdt_val (pd_callD d__law_all_say hr (pda_cons (pd_callM d__law_of_number mk hr (pda_cons (dv 3) (pda_cons (dv 5) pda_nil))) (pda_cons pd_str pda_nil))))) (pdss_one (pds_ret pd_bl)) pdss_nil)))
    (pdss_cons (pds_set 6 (pd_tup (pda_cons (pd_tup (pda_cons pd_int (pda_cons pd_int pda_nil))) (pda_cons (pd_tup (pda_cons pd_int (pda_cons (pd_neg pd_int) pda_nil))) pda_nil))) sc_law.nd)
    (pdss_newC 7 (pdn_lst (pda_cons (pd_good mk (lamS_by (sc := defScope s_law) (by decide +kernel)) fun _ _ il => gd_mk il (lamS_by (sc := defScope s_law) (by decide +kernel)) (by decide +kernel) cells_inj (fun _ _ _ => rfl) flat12_ok (fun _ _ _ _ _ _ _ _ _ rx hr => (pd_callX dC_change hr rx (pda_cons (dv 0) (pda_cons pd_int (pda_cons pd_int pda_nil))))) E12.struck h12_0) pda_nil)) (poc_cons (fun H1 s01 => (pow_app (pd_good (MkL.same mk s01) (lamS_by (sc := defScope s_law) (by decide +kernel)) fun _ _ il => gd_mk il (lamS_by (sc := defScope s_law) (by decide +kernel)) (by decide +kernel) cells_inj (fun _ _ _ => rfl) flat12_ok (fun _ _ _ _ _ _ _ _ _ rx hr => (pd_callX dC_count_given hr rx (pda_cons (dv 0) (pda_cons pd_int (pda_cons pd_int pda_nil))))) E12.struck h12_1)))
    (poc_cons (fun H1 s01 => (pow_app (pd_good (MkL.same mk s01) (lamS_by (sc := defScope s_law) (by decide +kernel)) fun _ _ il => gd_mk il (lamS_by (sc := defScope s_law) (by decide +kernel)) (by decide +kernel) cells_inj (fun _ _ _ => rfl) flat12_ok (fun _ _ _ _ _ _ _ _ _ rx hr => (pd_callX dC_most_given hr rx (pda_cons (dv 0) (pda_cons pd_int (pda_cons pd_int pda_nil))))) E12.struck h12_2)))
    (poc_cons (fun H1 s01 => (pow_app (pd_good (MkL.same mk s01) (lamS_by (sc := defScope s_law) (by decide +kernel)) fun _ _ il => gd_mk il (lamS_by (sc := defScope s_law) (by decide +kernel)) (by decide +kernel) cells_inj (fun _ _ _ => rfl) flat12_ok (fun _ _ _ _ _ _ _ _ _ rx hr => (pd_callX dC_fewest hr rx (pda_cons (dv 0) (pda_cons pd_int (pda_cons pd_int pda_nil))))) E12.struck h12_3)))
    (poc_cons (fun H1 s01 => (pow_app (pd_good (MkL.same mk s01) (lamS_by (sc := defScope s_law) (by decide +kernel)) fun _ _ il => gd_mk il (lamS_by (sc := defScope s_law) (by decide +kernel)) (by decide +kernel) cells_inj (fun _ _ _ => rfl) flat12_ok (fun _ _ _ _ _ _ _ _ _ rx hr => (pd_callX dC_least_bad hr rx (pda_cons (dv 0) (pda_cons pd_int pda_nil)))) E12.struck h12_4)))
    (poc_cons (fun H1 s01 => (pow_app (pd_good (MkL.same mk s01) (lamS_by (sc := defScope s_law) (by decide +kernel)) fun _ _ il => gd_mk il (lamS_by (sc := defScope s_law) (by decide +kernel)) (by decide +kernel) cells_inj (fun _ _ _ => rfl) flat12_ok (fun _ _ _ _ _ _ _ _ _ rx hr => (pd_callX dC_worse_by hr rx (pda_cons (dv 0) (pda_cons pd_int pda_nil)))) E12.struck h12_5)))
    (poc_cons (fun H1 s01 => (pow_app (pd_good (MkL.same mk s01) (lamS_by (sc := defScope s_law) (by decide +kernel)) fun _ _ il => gd_mk il (lamS_by (sc := defScope s_law) (by decide +kernel)) (by decide +kernel) cells_inj (fun _ _ _ => rfl) flat12_ok (fun _ _ _ _ _ _ _ _ _ rx hr => (pd_makeX cT dT hr rx (pda_cons (dv 0) (pda_cons pd_int pda_nil)))) E12.struck h12_6)))
    (poc_end (pdss_cons (pds_if (PDW.pdt (pdw_or (pdt_not (pdt_val (pd_saysLive 7 [6] d__law_all_say hr (by decide +kernel) flat12_ok rfl (by decide) cell_law (fun _ => rfl) rfl rfl))) (pdw_or1 (pdt_cmp (od_ne hr.units) (pdc (k := 10) T d__law_error_of mk (hr.mono (by decide)) (lamS_by (sc := defScope s_law) (by decide +kernel)) rfl (fun _ _ _ _ _ => rfl) fun _ _ _ _ _ _ _ H0 EK rx hr => (pd_callX dC_fewest hr rx (pda_cons (dv 6) (pda_cons pd_int (pda_cons pd_int pda_nil))))) pd_str (nomark _))))) (pdss_one (pds_ret pd_bl)) pdss_nil)
    (pdss_cons (pds_set 8 (pd_tup (pda_cons (pd_tup (pda_cons pd_int (pda_cons pd_int pda_nil))) (pda_cons (pd_tup (pda_cons pd_int (pda_cons pd_int pda_nil))) (pda_cons (pd_tup (pda_cons pd_int (pda_cons pd_int pda_nil))) (pda_cons (pd_tup (pda_cons pd_int (pda_cons pd_int pda_nil))) (pda_cons (pd_tup (pda_cons pd_int (pda_cons pd_int pda_nil))) pda_nil)))))) sc_law.nd)
    (pdss_cons (pds_if (pdt_cmp (od_ne hr.units) (pdc (k := 10) T d__law_error_of mk (hr.mono (by decide)) (lamS_by (sc := defScope s_law) (by decide +kernel)) rfl (fun _ _ _ _ _ => rfl) fun _ _ _ _ _ _ _ H0 EK rx hr => (pd_makeS cM dM hr rx (pda_cons (pd_ix (fun _ _ => rfl) (dv 8) pd_int) (pda_cons (pd_ix (fun _ _ => rfl) (dv 8) pd_int) (pda_cons (pd_ix (fun _ _ => rfl) (dv 8) pd_int) (pda_cons (pd_ix (fun _ _ => rfl) (dv 8) pd_int) (pda_cons (pd_ix (fun _ _ => rfl) (dv 8) pd_int) pda_nil))))))) pd_str (nomark _)) (pdss_one (pds_ret pd_bl)) pdss_nil)
    (pdss_one (pds_if (pdt_cmp (od_ne hr.units) (pdc (k := 10) T d__law_error_of mk (hr.mono (by decide)) (lamS_by (sc := defScope s_law) (by decide +kernel)) rfl (fun _ _ _ _ _ => rfl) fun _ _ _ _ _ _ _ H0 EK rx hr => (pd_makeS cM dM hr rx (pda_cons (pd_tup (pda_cons pd_int (pda_cons pd_int pda_nil))) (pda_cons (pd_tup (pda_cons pd_int (pda_cons pd_int pda_nil))) pda_nil)))) pd_str (nomark _)) (pdss_one (pds_ret pd_bl)) pdss_nil)))))))))))) sc_law.nd)))))))))
    (pdss_one (pds_ret pd_bl)))) h
theorem all_ok (T : Top K mg ea fa) (E : ErrAll K ea) (S : LawSt K mg base τ "law" s_law) (S1 : LawSt K mg base τ "_law_of_mint" s__law_of_mint) (A1 : At K mg "_law_of_mint" s__law_of_mint ["mint"] S1.f S1.fd) (S2 : LawSt K mg base τ "_law_of_number" s__law_of_number) (A2 : At K mg "_law_of_number" s__law_of_number ["mint", "n"] S2.f S2.fd) : FnOk P w K mg base CX0 13 S.f S.fd ["script"] (SpLawT τ K) := by
  obtain ⟨CT, fT, fdT, cT, AT⟩ := T.c_Till
  obtain ⟨CM, fM, fdM, cM, AM⟩ := T.c_Mint
  have d__law_spring := ok__law_spring (τ := τ) (P := P) (w := w) (base := base) T  rd__law_spring
  have d__law_pick := ok__law_pick (τ := τ) (P := P) (w := w) (base := base) T  rd__law_pick
  have d__law_coin := ok__law_coin (τ := τ) (P := P) (w := w) (base := base) T d__law_pick rd__law_coin
  have d__law_mint := ok__law_mint (τ := τ) (P := P) (w := w) (base := base) T d__law_coin d__law_pick rd__law_mint
  have d__law_error_of := ok__law_error_of (τ := τ) (P := P) (w := w) (base := base) T rd__law_error_of
  have d_is_wide := ok_is_wide (τ := τ) (P := P) (w := w) (base := base) T  rd_is_wide
  have d_is_within := ok_is_within (τ := τ) (P := P) (w := w) (base := base) T  rd_is_within
  have d_is_coin := ok_is_coin (τ := τ) (P := P) (w := w) (base := base) T d_is_within d_is_wide rd_is_coin
  have d_is_fit := ok_is_fit (τ := τ) (P := P) (w := w) (base := base) T d_is_wide d_is_coin rd_is_fit
  have d_look_at_mint := ok_look_at_mint (τ := τ) (P := P) (w := w) (base := base) T d_is_fit rd_look_at_mint
  have dX_look_at_mint : DX τ P w K mg base "look_at_mint" 4 1 (FX_look_at_mint ea) := d_look_at_mint.toX.or (okX_look_at_mint T d_is_fit (rdX_look_at_mint ea))
  have d_look_at_number := ok_look_at_number (τ := τ) (P := P) (w := w) (base := base) T d_is_within rd_look_at_number
  have dX_look_at_number : DX τ P w K mg base "look_at_number" 2 1 (FX_look_at_number ea) := d_look_at_number.toX.or (okX_look_at_number T d_is_within (rdX_look_at_number ea))
  have d_look_at_amount := ok_look_at_amount (τ := τ) (P := P) (w := w) (base := base) T d_is_within rd_look_at_amount
  have dX_look_at_amount : DX τ P w K mg base "look_at_amount" 2 2 (FX_look_at_amount ea) := d_look_at_amount.toX.or (okX_look_at_amount T d_is_within (rdX_look_at_amount ea))
  have d_worths_by := ok_worths_by (τ := τ) (P := P) (w := w) (base := base) T  rd_worths_by
  have d_struck_by := ok_struck_by (τ := τ) (P := P) (w := w) (base := base) T d_worths_by rd_struck_by
  have d_look_at_struck := ok_look_at_struck (τ := τ) (P := P) (w := w) (base := base) T d_struck_by rd_look_at_struck
  have dX_look_at_struck : DX τ P w K mg base "look_at_struck" 3 2 (FX_look_at_struck ea) := d_look_at_struck.toX.or (okX_look_at_struck T d_struck_by (rdX_look_at_struck ea))
  have d_look_at_all := ok_look_at_all (τ := τ) (P := P) (w := w) (base := base) T d_look_at_mint d_look_at_number d_look_at_amount d_look_at_struck rd_look_at_all
  have dX_look_at_all : DX τ P w K mg base "look_at_all" 5 4 (FX_look_at_all ea) := d_look_at_all.toX.or (okX_look_at_all T d_look_at_mint dX_look_at_mint d_look_at_number dX_look_at_number d_look_at_amount dX_look_at_amount d_look_at_struck dX_look_at_struck (rdX_look_at_all ea))
  have d_look_at_both := ok_look_at_both (τ := τ) (P := P) (w := w) (base := base) T d_look_at_mint d_look_at_number rd_look_at_both
  have dX_look_at_both : DX τ P w K mg base "look_at_both" 5 2 (FX_look_at_both ea) := d_look_at_both.toX.or (okX_look_at_both T d_look_at_mint dX_look_at_mint d_look_at_number dX_look_at_number (rdX_look_at_both ea))
  have d_in_order := ok_in_order (τ := τ) (P := P) (w := w) (base := base) T d_is_coin rd_in_order
  have dC_is_struck := okC_is_struck (τ := τ) (P := P) (w := w) (base := base) T d_look_at_mint dX_look_at_mint d_look_at_number dX_look_at_number (rdC_is_struck ea)
  have dC_worths := okC_worths (τ := τ) (P := P) (w := w) (base := base) T d_look_at_mint dX_look_at_mint d_look_at_number dX_look_at_number (rdC_worths ea)
  have dC_struck := okC_struck (τ := τ) (P := P) (w := w) (base := base) T d_look_at_mint dX_look_at_mint (rdC_struck ea)
  have dC_change := okC_change (τ := τ) (P := P) (w := w) (base := base) T d_look_at_all dX_look_at_all (rdC_change ea)
  have dC_count_given := okC_count_given (τ := τ) (P := P) (w := w) (base := base) T d_look_at_all dX_look_at_all (rdC_count_given ea)
  have dC_most_given := okC_most_given (τ := τ) (P := P) (w := w) (base := base) T d_look_at_all dX_look_at_all (rdC_most_given ea)
  have dC_fewest := okC_fewest (τ := τ) (P := P) (w := w) (base := base) T d_look_at_all dX_look_at_all (rdC_fewest ea)
  have dC_is_right := okC_is_right (τ := τ) (P := P) (w := w) (base := base) T d_look_at_both dX_look_at_both (rdC_is_right ea)
  have dC_least_bad := okC_least_bad (τ := τ) (P := P) (w := w) (base := base) T d_look_at_both dX_look_at_both d_look_at_struck dX_look_at_struck (rdC_least_bad ea)
  have dC_worse_by := okC_worse_by (τ := τ) (P := P) (w := w) (base := base) T d_look_at_both dX_look_at_both d_look_at_struck dX_look_at_struck (rdC_worse_by ea)
  have dC_right := okC_right (τ := τ) (P := P) (w := w) (base := base) T d_look_at_mint dX_look_at_mint (rdC_right ea)
  have dC_always_right := okC_always_right (τ := τ) (P := P) (w := w) (base := base) T d_look_at_mint dX_look_at_mint (rdC_always_right ea)
  have dC_bad_form := okC_bad_form (τ := τ) (P := P) (w := w) (base := base) T d_look_at_mint dX_look_at_mint (rdC_bad_form ea)
  have dC_worse_form := okC_worse_form (τ := τ) (P := P) (w := w) (base := base) T d_look_at_mint dX_look_at_mint (rdC_worse_form ea)
  have dC_count_form := okC_count_form (τ := τ) (P := P) (w := w) (base := base) T d_look_at_mint dX_look_at_mint (rdC_count_form ea)
  have dC_leavable := okC_leavable (τ := τ) (P := P) (w := w) (base := base) T d_look_at_mint dX_look_at_mint (rdC_leavable ea)
  have dC_addable := okC_addable (τ := τ) (P := P) (w := w) (base := base) T d_look_at_mint dX_look_at_mint (rdC_addable ea)
  have dC_alike := okC_alike (τ := τ) (P := P) (w := w) (base := base) T d_look_at_mint dX_look_at_mint (rdC_alike ea)
  have dC_parting := okC_parting (τ := τ) (P := P) (w := w) (base := base) T d_look_at_mint dX_look_at_mint (rdC_parting ea)
  have dC_numbers_told := okC_numbers_told (τ := τ) (P := P) (w := w) (base := base) T d_look_at_mint dX_look_at_mint (rdC_numbers_told ea)
  have dC_mint_text := okC_mint_text (τ := τ) (P := P) (w := w) (base := base) T d_look_at_mint dX_look_at_mint (rdC_mint_text ea)
  have dT := okT_init (τ := τ) (P := P) (w := w) (base := base) T d_look_at_mint dX_look_at_mint d_look_at_number dX_look_at_number d_look_at_struck dX_look_at_struck AT
  have dM := okM_init (τ := τ) (P := P) (w := w) (base := base) T d_look_at_mint dX_look_at_mint d_in_order AM
  have d__law_came := ok__law_came (τ := τ) (P := P) (w := w) (base := base) T d__law_error_of
  have d__law_all_say := ok__law_all_say (τ := τ) (P := P) (w := w) (base := base) T d__law_came
  have d__law_of_mint := ok__law_of_mint (τ := τ) (P := P) (w := w) (base := base) T E dC_is_struck dC_worths dC_struck dC_change dC_count_given dC_most_given dC_fewest dC_is_right dC_least_bad dC_worse_by dC_right dC_always_right dC_bad_form dC_worse_form dC_count_form dC_leavable dC_addable dC_alike dC_parting dC_numbers_told dC_mint_text cT dT S1 A1
  have d__law_of_number := ok__law_of_number (τ := τ) (P := P) (w := w) (base := base) T E dC_is_struck dC_worths dC_struck dC_change dC_count_given dC_most_given dC_fewest dC_is_right dC_least_bad dC_worse_by dC_right dC_always_right dC_bad_form dC_worse_form dC_count_form dC_leavable dC_addable dC_alike dC_parting dC_numbers_told dC_mint_text cT dT S2 A2
  exact ok_law T E d__law_spring d__law_mint d__law_error_of d__law_all_say d__law_of_mint d__law_of_number dC_is_struck dC_worths dC_struck dC_change dC_count_given dC_most_given dC_fewest dC_is_right dC_least_bad dC_worse_by dC_right dC_always_right dC_bad_form dC_worse_form dC_count_form dC_leavable dC_addable dC_alike dC_parting dC_numbers_told dC_mint_text cT dT cM dM S (rd_law E)
end
theorem law_fin {l : PySem.W.OpenLaw} {w : World} {K : PySem.W.Frag} {mg : Str → Option Value} {e0 e1 e2 e3 e4 e5 e6 e7 e8 e9 e10 e11 : Addr} {fa : Str → Addr} (T : Top K mg ⟨e0, e1, e2, e3, e4, e5, e6, e7, e8, e9, e10, e11⟩ fa) (E : ErrAll K ⟨e0, e1, e2, e3, e4, e5, e6, e7, e8, e9, e10, e11⟩) : ∀ (τ : Tbs) (base : Heap), K.In base → base.Ns mainGlobals mg → ∀ (S : LawSt K mg base τ "law" s_law) (S1 : LawSt K mg base τ "_law_of_mint" s__law_of_mint) (_ : At K mg "_law_of_mint" s__law_of_mint ["mint"] S1.f S1.fd) (S2 : LawSt K mg base τ "_law_of_number" s__law_of_number) (_ : At K mg "_law_of_number" s__law_of_number ["mint", "n"] S2.f S2.fd), FnOk l.prog w K mg base CX0 13 S.f S.fd ["script"] (SpLawT τ K) := fun τ base _ _ S S1 A1 S2 A2 => all_ok T E S S1 A1 S2 A2
theorem lawAt3 {l : PySem.W.OpenLaw} {w : World} {K : PySem.W.Frag} {mg : Str → Option Value} {k : Nat} {h : Heap} {f0 c0 P0 : Addr} {kV0 doc0 pm0 oc0 ow0 ct0 : Value} {an0 od0 ox0 : Option Addr} {osl0 sl0 : Array (Option Value)} {vs0 : Array Value} {f1 c1 P1 : Addr} {kV1 doc1 pm1 oc1 ow1 ct1 : Value} {an1 od1 ox1 : Option Addr} {osl1 sl1 : Array (Option Value)} {vs1 : Array Value} {f2 c2 P2 : Addr} {kV2 doc2 pm2 oc2 ow2 ct2 : Value} {an2 od2 ox2 : Option Addr} {osl2 sl2 : Array (Option Value)} {vs2 : Array Value} (KX : K.In h) {fa : Addr} (hfa : mg "law" = some (.ref fa)) (hmg : mg "law" = some (.ref f0))
    (lk0 : K.lookup f0 = some ⟨oc0, od0, .func (PySem.W.fnOf "law" "law" (defArgs s_law) (defBody s_law) (defScope s_law) .none kV0 doc0 pm0 an0 (.ref c0) ct0), osl0⟩) (hc0 : PySem.W.codeIn K (.ref c0) "law" = true)
    (lc0 : K.lookup c0 = some ⟨ow0, ox0, .fields vs0, sl0⟩) (lp0 : vs0[11]? = some (.ref P0)) (hd0 : PySem.W.codeHdIn K c0 P0 = true) (hn0 : K.lookup P0 = none) (hT0 : h.get? P0 = some { cls := .none, data := .fields #[] })
    (lk1 : K.lookup f1 = some ⟨oc1, od1, .func (PySem.W.fnOf "_law_of_mint" "_law_of_mint" (defArgs s__law_of_mint) (defBody s__law_of_mint) (defScope s__law_of_mint) .none kV1 doc1 pm1 an1 (.ref c1) ct1), osl1⟩) (hc1 : PySem.W.codeIn K (.ref c1) "_law_of_mint" = true)
    (lc1 : K.lookup c1 = some ⟨ow1, ox1, .fields vs1, sl1⟩) (lp1 : vs1[11]? = some (.ref P1)) (hd1 : PySem.W.codeHdIn K c1 P1 = true) (hn1 : K.lookup P1 = none) (hT1 : h.get? P1 = some { cls := .none, data := .fields #[] })
    (lk2 : K.lookup f2 = some ⟨oc2, od2, .func (PySem.W.fnOf "_law_of_number" "_law_of_number" (defArgs s__law_of_number) (defBody s__law_of_number) (defScope s__law_of_number) .none kV2 doc2 pm2 an2 (.ref c2) ct2), osl2⟩) (hc2 : PySem.W.codeIn K (.ref c2) "_law_of_number" = true)
    (lc2 : K.lookup c2 = some ⟨ow2, ox2, .fields vs2, sl2⟩) (lp2 : vs2[11]? = some (.ref P2)) (hd2 : PySem.W.codeHdIn K c2 P2 = true) (hn2 : K.lookup P2 = none) (hT2 : h.get? P2 = some { cls := .none, data := .fields #[] })
    (n01 : (P0 == P1) = false) (n02 : (P0 == P2) = false) (n12 : (P1 == P2) = false)
    (A1 : At K mg "_law_of_mint" s__law_of_mint ["mint"] f1 (PySem.W.fnOf "_law_of_mint" "_law_of_mint" (defArgs s__law_of_mint) (defBody s__law_of_mint) (defScope s__law_of_mint) .none kV1 doc1 pm1 an1 (.ref c1) ct1)) (A2 : At K mg "_law_of_number" s__law_of_number ["mint", "n"] f2 (PySem.W.fnOf "_law_of_number" "_law_of_number" (defArgs s__law_of_number) (defBody s__law_of_number) (defScope s__law_of_number) .none kV2 doc2 pm2 an2 (.ref c2) ct2))
    (hbt : ∀ (s : Shared) (v : Value), BindsTo s (PySem.W.fnOf "law" "law" (defArgs s_law) (defBody s_law) (defScope s_law) .none kV0 doc0 pm0 an0 (.ref c0) ct0) ⟨[v], []⟩ [("script", v)])
    (F : ∀ (τ : Tbs) (base : Heap), K.In base → base.Ns mainGlobals mg → ∀ (S : LawSt K mg base τ "law" s_law) (S1 : LawSt K mg base τ "_law_of_mint" s__law_of_mint) (_ : At K mg "_law_of_mint" s__law_of_mint ["mint"] S1.f S1.fd) (S2 : LawSt K mg base τ "_law_of_number" s__law_of_number) (_ : At K mg "_law_of_number" s__law_of_number ["mint", "n"] S2.f S2.fd), FnOk l.prog w K mg base CX0 k S.f S.fd ["script"] (SpLawT τ K)) : LawAtS l w K CX0 k 63 "script" mg fa h := by
  cases hfa.symm.trans hmg
  have e01 : P0 ≠ P1 := fun e => by rw [e] at n01; simp at n01
  have e02 : P0 ≠ P2 := fun e => by rw [e] at n02; simp at n02
  have e12 : P1 ≠ P2 := fun e => by rw [e] at n12; simp at n12
  have three : ∀ {α : Type} {x y z : α} {Z : α → Prop}, Z x → Z y → Z z → ∀ p ∈ [x, y, z], Z p := fun a b c p hp => by
    rcases List.mem_cons.mp hp with rfl | hp
    · exact a
    · rcases List.mem_cons.mp hp with rfl | hp
      · exact b
      · rw [List.mem_singleton.mp hp]; exact c
  refine ⟨_, [(c0, P0), (c1, P1), (c2, P2)], SpLawT [(P0, lamName "law" s_law f0 c0), (P1, lamName "_law_of_mint" s__law_of_mint f1 c1), (P2, lamName "_law_of_number" s__law_of_number f2 c2)] K, three hT0 hT1 hT2, three hn0 hn1 hn2, three (PySem.W.codeHd_of_K KX hd0) (PySem.W.codeHd_of_K KX hd1) (PySem.W.codeHd_of_K KX hd2), hbt, ?_, ?_⟩
  · intro H a ns hl _ hH hS
    exact ⟨a, ns, rfl, hS, three (TabS.nil (hH (c0, P0) (by simp))) (TabS.nil (hH (c1, P1) (by simp))) (TabS.nil (hH (c2, P2) (by simp))), hl, fun _ => rfl⟩
  · intro base Kb G hTB
    exact F _ base Kb G ⟨f0, _, c0, P0, ⟨_, _, _, _, _, _, _, _, rfl, lk0⟩, hc0, hTB (c0, P0) (by simp), by simp, three (fun _ => rfl) (fun e => absurd e (Ne.symm e01)) (fun e => absurd e (Ne.symm e02))⟩
      ⟨f1, _, c1, P1, ⟨_, _, _, _, _, _, _, _, rfl, lk1⟩, hc1, hTB (c1, P1) (by simp), by simp, three (fun e => absurd e e01) (fun _ => rfl) (fun e => absurd e (Ne.symm e12))⟩ A1
      ⟨f2, _, c2, P2, ⟨_, _, _, _, _, _, _, _, rfl, lk2⟩, hc2, hTB (c2, P2) (by simp), by simp, three (fun e => absurd e e02) (fun e => absurd e e12) (fun _ => rfl)⟩ A2
/-! ### what the top leaves, by names -/
def hFa : List He.Fa := ([.glo "InvalidMint", .glo "InvalidNumber", .glo "InvalidAmount", .glo "InvalidSum", .glo "InvalidCoin", .glo "InvalidMenu", .glo "InvalidSeen", .glo "InvalidText", .glo "NotStruck", .glo "TooMuch", .glo "NothingLeft", .glo "MintError", .glo "_law_spring", .glo "_law_pick", .glo "_law_coin", .glo "_law_mint", .glo "_law_error_of", .glo "is_wide", .glo "is_within", .glo "is_coin", .glo "is_fit", .glo "look_at_mint", .glo "look_at_number", .glo "look_at_amount", .glo "worths_by", .glo "struck_by", .glo "look_at_struck", .glo "look_at_all", .glo "look_at_both", .glo "in_order", .glo "is_struck", .glo "worths", .glo "struck", .glo "change", .glo "count_given", .glo "most_given", .glo "fewest", .glo "is_right", .glo "least_bad", .glo "worse_by"] : List He.Fa) ++ ([.glo "right", .glo "always_right", .glo "bad_form", .glo "worse_form", .glo "count_form", .glo "leavable", .glo "addable", .glo "alike", .glo "parting", .glo "numbers_told", .glo "mint_text", .glo "_law_came", .glo "_law_all_say", .glo "_law_of_mint", .glo "_law_of_number", .glo "law", .glo "Till", .glo "Mint", .mkr "Till", .mkr "Mint", .free "ValueError", .free "abs", .free "all", .free "bool", .free "int", .free "isinstance", .free "len", .free "list", .free "min", .free "range", .free "set", .free "sorted", .free "tuple", .free "zip", .int "FAR" (1000000000000000000000000000000), .int "WIDE" (10000000000000000000000000000000), .exc "InvalidAmount", .exc "InvalidMint", .exc "InvalidNumber", .exc "NotStruck"] : List He.Fa)
def hFn : List He.DefD := ([hDef "_law_spring" s__law_spring, hDef "_law_pick" s__law_pick, hDef "_law_coin" s__law_coin, hDef "_law_mint" s__law_mint, hDef "_law_error_of" s__law_error_of, hDef "is_wide" s_is_wide, hDef "is_within" s_is_within, hDef "is_coin" s_is_coin, hDef "is_fit" s_is_fit, hDef "look_at_mint" s_look_at_mint, hDef "look_at_number" s_look_at_number, hDef "look_at_amount" s_look_at_amount, hDef "worths_by" s_worths_by, hDef "struck_by" s_struck_by, hDef "look_at_struck" s_look_at_struck, hDef "look_at_all" s_look_at_all, hDef "look_at_both" s_look_at_both, hDef "in_order" s_in_order, hDef "is_struck" s_is_struck, hDef "worths" s_worths, hDef "struck" s_struck, hDef "change" s_change, hDef "count_given" s_count_given, hDef "most_given" s_most_given, hDef "fewest" s_fewest, hDef "is_right" s_is_right, hDef "least_bad" s_least_bad, hDef "worse_by" s_worse_by, hDef "right" s_right, hDef "always_right" s_always_right, hDef "bad_form" s_bad_form, hDef "worse_form" s_worse_form, hDef "count_form" s_count_form, hDef "leavable" s_leavable, hDef "addable" s_addable, hDef "alike" s_alike, hDef "parting" s_parting, hDef "numbers_told" s_numbers_told, hDef "mint_text" s_mint_text, hDef "_law_came" s__law_came] : List He.DefD) ++ ([hDef "_law_all_say" s__law_all_say, hDef "_law_of_mint" s__law_of_mint, hDef "_law_of_number" s__law_of_number, hDef "law" s_law, hMeth "Till" "__init__" "Till.__init__" s_Till_init, hMeth "Mint" "__init__" "Mint.__init__" s_Mint_init] : List He.DefD)
def hTf : List He.Defn := [("law", none), ("_law_of_mint", none), ("_law_of_number", none)]
def hEx (K : PySem.W.Frag) : Bool := errsB K && (!(tabP K "law" == tabP K "_law_of_mint") && (!(tabP K "law" == tabP K "_law_of_number") && !(tabP K "_law_of_mint" == tabP K "_law_of_number")))
abbrev hR : PySem.W.OpenRow := PySem.W.OpenLaw.row PySem.Challenge.rw_giveform_k12_what_is_refused
def hNms : Nms := ⟨(["_law_spring", "_law_pick", "_law_coin", "_law_mint", "_law_error_of", "is_wide", "is_within", "is_coin", "is_fit", "look_at_mint", "look_at_number", "look_at_amount", "worths_by", "struck_by", "look_at_struck", "look_at_all", "look_at_both", "in_order", "is_struck", "worths", "struck", "change", "count_given", "most_given"] : List Str) ++ (["fewest", "is_right", "least_bad", "worse_by", "right", "always_right", "bad_form", "worse_form", "count_form", "leavable", "addable", "alike", "parting", "numbers_told", "mint_text", "_law_came", "_law_all_say", "_law_of_mint", "_law_of_number", "law"] : List Str), ["InvalidMint", "InvalidNumber", "InvalidAmount", "InvalidSum", "InvalidCoin", "InvalidMenu", "InvalidSeen", "InvalidText", "NotStruck", "TooMuch", "NothingLeft", "MintError", "Till", "Mint"], [("Till", "__init__"), ("Mint", "__init__")]⟩
abbrev hK : PySem.W.Hook := hookY hFa hFn [] hTf hEx hNms
def hOb (s : PySem.W.SharedT) : He.AlX := obsY hFa hFn [] hTf hEx hNms (HandSHeadRun.getT s)
theorem hOb_ok (s : PySem.W.SharedT) : hOb s = hK.obs s.abs := obsY_eq hFa hFn [] hTf hEx hNms (HandSHeadRun.getT_eq s)
def hLo0 : List Str := ["_wall", "__name__", "divisor", "lowest", "shortest", "steady_truths", "form_by", "is_told", "steady_numbers", "MintError", "InvalidMint", "InvalidNumber", "InvalidAmount", "InvalidSum", "InvalidCoin", "InvalidMenu", "InvalidSeen", "InvalidText", "NotStruck", "TooMuch", "NothingLeft", "FAR", "is_within", "is_wide"]
def hLo1 : List Str := ["is_coin", "is_fit", "look_at_mint", "look_at_number", "worths_by", "struck_by", "look_at_struck", "is_struck", "worths", "struck", "WIDE", "given_by", "most_by", "fewest_row", "look_at_amount", "look_at_all", "change", "count_given", "most_given", "fewest", "others_by", "bad_by", "right_by", "bad_of"]
def hLo2 : List Str := ["look_at_both", "is_right", "least_bad", "worse_by", "STEADY", "size_of", "right_row", "always_by", "bad_row", "count_by", "look_at_sum", "right", "always_right", "bad_form", "worse_form", "count_form", "parting_of", "alike", "parting", "less_by", "more_by", "is_good", "leavable", "addable"]
def hLo3 : List Str := ["MOST_telling", "is_sight", "goes_with", "numbers_told", "LEAST", "MANY", "text_of", "mint_text", "coin_of", "read_mint", "MOST_tills", "out_of", "Till", "in_order", "made_of", "Mint", "_law_spring", "_law_pick", "_law_kind", "_law_twins", "_law_coin", "_law_mint", "_law_worths", "_law_is_struck"]
def hLo4 : List Str := ["_law_change", "_law_few", "_law_bad", "_law_error_of", "_law_came", "_law_of_mint", "_law_of_number", "_law_all_say"]
def hLoose : List Str := hLo0 ++ hLo1 ++ hLo2 ++ hLo3 ++ hLo4
theorem hRun (w : World) : HandSHeadRun.RunEq hR (PySem.W.view hR.prog [116]) hK hOb 8000 hLoose w := by
  intro os; kernel_rfl
section
variable {w : World} {K : PySem.W.Frag} {h : Heap} {mg : Str → Option Value}
theorem hAt__law_spring (X : K.In h) (G : h.Ns mainGlobals mg) (c : He.SaysX hFa hFn [] hTf hEx w h K) : ∃ fd, At K mg "_law_spring" s__law_spring ["script", "at"] (He.ga K "_law_spring") fd := by
  obtain ⟨fd, F⟩ := (c.t.d.def_ 0 (d := hDef "_law_spring" s__law_spring) rfl)
  exact ⟨fd, h_one (ps := ["script", "at"]) (h_fun s__law_spring F) (He.glo_ok X G (c.t.d.fact 12 (f := .glo "_law_spring") rfl)) (fun _ _ _ _ _ _ us hl => match us, hl with | [_, _], _ => rfl) rfl⟩
theorem hAt__law_pick (X : K.In h) (G : h.Ns mainGlobals mg) (c : He.SaysX hFa hFn [] hTf hEx w h K) : ∃ fd, At K mg "_law_pick" s__law_pick ["spring", "many"] (He.ga K "_law_pick") fd := by
  obtain ⟨fd, F⟩ := (c.t.d.def_ 1 (d := hDef "_law_pick" s__law_pick) rfl)
  exact ⟨fd, h_one (ps := ["spring", "many"]) (h_fun s__law_pick F) (He.glo_ok X G (c.t.d.fact 13 (f := .glo "_law_pick") rfl)) (fun _ _ _ _ _ _ us hl => match us, hl with | [_, _], _ => rfl) rfl⟩
theorem hAt__law_coin (X : K.In h) (G : h.Ns mainGlobals mg) (c : He.SaysX hFa hFn [] hTf hEx w h K) : ∃ fd, At K mg "_law_coin" s__law_coin ["spring"] (He.ga K "_law_coin") fd := by
  obtain ⟨fd, F⟩ := (c.t.d.def_ 2 (d := hDef "_law_coin" s__law_coin) rfl)
  exact ⟨fd, h_one (ps := ["spring"]) (h_fun s__law_coin F) (He.glo_ok X G (c.t.d.fact 14 (f := .glo "_law_coin") rfl)) (fun _ _ _ _ _ _ us hl => match us, hl with | [_], _ => rfl) rfl⟩
theorem hAt__law_mint (X : K.In h) (G : h.Ns mainGlobals mg) (c : He.SaysX hFa hFn [] hTf hEx w h K) : ∃ fd, At K mg "_law_mint" s__law_mint ["spring", "most"] (He.ga K "_law_mint") fd := by
  obtain ⟨fd, F⟩ := (c.t.d.def_ 3 (d := hDef "_law_mint" s__law_mint) rfl)
  exact ⟨fd, h_one (ps := ["spring", "most"]) (h_fun s__law_mint F) (He.glo_ok X G (c.t.d.fact 15 (f := .glo "_law_mint") rfl)) (fun _ _ _ _ _ _ us hl => match us, hl with | [_, _], _ => rfl) rfl⟩
theorem hAt__law_error_of (X : K.In h) (G : h.Ns mainGlobals mg) (c : He.SaysX hFa hFn [] hTf hEx w h K) : ∃ fd, At K mg "_law_error_of" s__law_error_of ["e"] (He.ga K "_law_error_of") fd := by
  obtain ⟨fd, F⟩ := (c.t.d.def_ 4 (d := hDef "_law_error_of" s__law_error_of) rfl)
  exact ⟨fd, h_one (ps := ["e"]) (h_fun s__law_error_of F) (He.glo_ok X G (c.t.d.fact 16 (f := .glo "_law_error_of") rfl)) (fun _ _ _ _ _ _ us hl => match us, hl with | [_], _ => rfl) rfl⟩
theorem hAt_is_wide (X : K.In h) (G : h.Ns mainGlobals mg) (c : He.SaysX hFa hFn [] hTf hEx w h K) : ∃ fd, At K mg "is_wide" s_is_wide ["value", "low", "high"] (He.ga K "is_wide") fd := by
  obtain ⟨fd, F⟩ := (c.t.d.def_ 5 (d := hDef "is_wide" s_is_wide) rfl)
  exact ⟨fd, h_one (ps := ["value", "low", "high"]) (h_fun s_is_wide F) (He.glo_ok X G (c.t.d.fact 17 (f := .glo "is_wide") rfl)) (fun _ _ _ _ _ _ us hl => match us, hl with | [_, _, _], _ => rfl) rfl⟩
theorem hAt_is_within (X : K.In h) (G : h.Ns mainGlobals mg) (c : He.SaysX hFa hFn [] hTf hEx w h K) : ∃ fd, At K mg "is_within" s_is_within ["value", "low", "high"] (He.ga K "is_within") fd := by
  obtain ⟨fd, F⟩ := (c.t.d.def_ 6 (d := hDef "is_within" s_is_within) rfl)
  exact ⟨fd, h_one (ps := ["value", "low", "high"]) (h_fun s_is_within F) (He.glo_ok X G (c.t.d.fact 18 (f := .glo "is_within") rfl)) (fun _ _ _ _ _ _ us hl => match us, hl with | [_, _, _], _ => rfl) rfl⟩
theorem hAt_is_coin (X : K.In h) (G : h.Ns mainGlobals mg) (c : He.SaysX hFa hFn [] hTf hEx w h K) : ∃ fd, At K mg "is_coin" s_is_coin ["value"] (He.ga K "is_coin") fd := by
  obtain ⟨fd, F⟩ := (c.t.d.def_ 7 (d := hDef "is_coin" s_is_coin) rfl)
  exact ⟨fd, h_one (ps := ["value"]) (h_fun s_is_coin F) (He.glo_ok X G (c.t.d.fact 19 (f := .glo "is_coin") rfl)) (fun _ _ _ _ _ _ us hl => match us, hl with | [_], _ => rfl) rfl⟩
theorem hAt_is_fit (X : K.In h) (G : h.Ns mainGlobals mg) (c : He.SaysX hFa hFn [] hTf hEx w h K) : ∃ fd, At K mg "is_fit" s_is_fit ["value"] (He.ga K "is_fit") fd := by
  obtain ⟨fd, F⟩ := (c.t.d.def_ 8 (d := hDef "is_fit" s_is_fit) rfl)
  exact ⟨fd, h_one (ps := ["value"]) (h_fun s_is_fit F) (He.glo_ok X G (c.t.d.fact 20 (f := .glo "is_fit") rfl)) (fun _ _ _ _ _ _ us hl => match us, hl with | [_], _ => rfl) rfl⟩
theorem hAt_look_at_mint (X : K.In h) (G : h.Ns mainGlobals mg) (c : He.SaysX hFa hFn [] hTf hEx w h K) : ∃ fd, At K mg "look_at_mint" s_look_at_mint ["mint"] (He.ga K "look_at_mint") fd := by
  obtain ⟨fd, F⟩ := (c.t.d.def_ 9 (d := hDef "look_at_mint" s_look_at_mint) rfl)
  exact ⟨fd, h_one (ps := ["mint"]) (h_fun s_look_at_mint F) (He.glo_ok X G (c.t.d.fact 21 (f := .glo "look_at_mint") rfl)) (fun _ _ _ _ _ _ us hl => match us, hl with | [_], _ => rfl) rfl⟩
theorem hAt_look_at_number (X : K.In h) (G : h.Ns mainGlobals mg) (c : He.SaysX hFa hFn [] hTf hEx w h K) : ∃ fd, At K mg "look_at_number" s_look_at_number ["n"] (He.ga K "look_at_number") fd := by
  obtain ⟨fd, F⟩ := (c.t.d.def_ 10 (d := hDef "look_at_number" s_look_at_number) rfl)
  exact ⟨fd, h_one (ps := ["n"]) (h_fun s_look_at_number F) (He.glo_ok X G (c.t.d.fact 22 (f := .glo "look_at_number") rfl)) (fun _ _ _ _ _ _ us hl => match us, hl with | [_], _ => rfl) rfl⟩
theorem hAt_look_at_amount (X : K.In h) (G : h.Ns mainGlobals mg) (c : He.SaysX hFa hFn [] hTf hEx w h K) : ∃ fd, At K mg "look_at_amount" s_look_at_amount ["amount", "most"] (He.ga K "look_at_amount") fd := by
  obtain ⟨fd, F⟩ := (c.t.d.def_ 11 (d := hDef "look_at_amount" s_look_at_amount) rfl)
  exact ⟨fd, h_one (ps := ["amount", "most"]) (h_fun s_look_at_amount F) (He.glo_ok X G (c.t.d.fact 23 (f := .glo "look_at_amount") rfl)) (fun _ _ _ _ _ _ us hl => match us, hl with | [_, _], _ => rfl) rfl⟩
theorem hAt_worths_by (X : K.In h) (G : h.Ns mainGlobals mg) (c : He.SaysX hFa hFn [] hTf hEx w h K) : ∃ fd, At K mg "worths_by" s_worths_by ["mint", "n"] (He.ga K "worths_by") fd := by
  obtain ⟨fd, F⟩ := (c.t.d.def_ 12 (d := hDef "worths_by" s_worths_by) rfl)
  exact ⟨fd, h_one (ps := ["mint", "n"]) (h_fun s_worths_by F) (He.glo_ok X G (c.t.d.fact 24 (f := .glo "worths_by") rfl)) (fun _ _ _ _ _ _ us hl => match us, hl with | [_, _], _ => rfl) rfl⟩
theorem hAt_struck_by (X : K.In h) (G : h.Ns mainGlobals mg) (c : He.SaysX hFa hFn [] hTf hEx w h K) : ∃ fd, At K mg "struck_by" s_struck_by ["mint", "n"] (He.ga K "struck_by") fd := by
  obtain ⟨fd, F⟩ := (c.t.d.def_ 13 (d := hDef "struck_by" s_struck_by) rfl)
  exact ⟨fd, h_one (ps := ["mint", "n"]) (h_fun s_struck_by F) (He.glo_ok X G (c.t.d.fact 25 (f := .glo "struck_by") rfl)) (fun _ _ _ _ _ _ us hl => match us, hl with | [_, _], _ => rfl) rfl⟩
theorem hAt_look_at_struck (X : K.In h) (G : h.Ns mainGlobals mg) (c : He.SaysX hFa hFn [] hTf hEx w h K) : ∃ fd, At K mg "look_at_struck" s_look_at_struck ["mint", "n"] (He.ga K "look_at_struck") fd := by
  obtain ⟨fd, F⟩ := (c.t.d.def_ 14 (d := hDef "look_at_struck" s_look_at_struck) rfl)
  exact ⟨fd, h_one (ps := ["mint", "n"]) (h_fun s_look_at_struck F) (He.glo_ok X G (c.t.d.fact 26 (f := .glo "look_at_struck") rfl)) (fun _ _ _ _ _ _ us hl => match us, hl with | [_, _], _ => rfl) rfl⟩
theorem hAt_look_at_all (X : K.In h) (G : h.Ns mainGlobals mg) (c : He.SaysX hFa hFn [] hTf hEx w h K) : ∃ fd, At K mg "look_at_all" s_look_at_all ["mint", "n", "amount", "most"] (He.ga K "look_at_all") fd := by
  obtain ⟨fd, F⟩ := (c.t.d.def_ 15 (d := hDef "look_at_all" s_look_at_all) rfl)
  exact ⟨fd, h_one (ps := ["mint", "n", "amount", "most"]) (h_fun s_look_at_all F) (He.glo_ok X G (c.t.d.fact 27 (f := .glo "look_at_all") rfl)) (fun _ _ _ _ _ _ us hl => match us, hl with | [_, _, _, _], _ => rfl) rfl⟩
theorem hAt_look_at_both (X : K.In h) (G : h.Ns mainGlobals mg) (c : He.SaysX hFa hFn [] hTf hEx w h K) : ∃ fd, At K mg "look_at_both" s_look_at_both ["mint", "n"] (He.ga K "look_at_both") fd := by
  obtain ⟨fd, F⟩ := (c.t.d.def_ 16 (d := hDef "look_at_both" s_look_at_both) rfl)
  exact ⟨fd, h_one (ps := ["mint", "n"]) (h_fun s_look_at_both F) (He.glo_ok X G (c.t.d.fact 28 (f := .glo "look_at_both") rfl)) (fun _ _ _ _ _ _ us hl => match us, hl with | [_, _], _ => rfl) rfl⟩
theorem hAt_in_order (X : K.In h) (G : h.Ns mainGlobals mg) (c : He.SaysX hFa hFn [] hTf hEx w h K) : ∃ fd, At K mg "in_order" s_in_order ["coins"] (He.ga K "in_order") fd := by
  obtain ⟨fd, F⟩ := (c.t.d.def_ 17 (d := hDef "in_order" s_in_order) rfl)
  exact ⟨fd, h_one (ps := ["coins"]) (h_fun s_in_order F) (He.glo_ok X G (c.t.d.fact 29 (f := .glo "in_order") rfl)) (fun _ _ _ _ _ _ us hl => match us, hl with | [_], _ => rfl) rfl⟩
theorem hAt_is_struck (X : K.In h) (G : h.Ns mainGlobals mg) (c : He.SaysX hFa hFn [] hTf hEx w h K) : ∃ fd, At K mg "is_struck" s_is_struck ["mint", "n"] (He.ga K "is_struck") fd := by
  obtain ⟨fd, F⟩ := (c.t.d.def_ 18 (d := hDef "is_struck" s_is_struck) rfl)
  exact ⟨fd, h_one (ps := ["mint", "n"]) (h_fun s_is_struck F) (He.glo_ok X G (c.t.d.fact 30 (f := .glo "is_struck") rfl)) (fun _ _ _ _ _ _ us hl => match us, hl with | [_, _], _ => rfl) rfl⟩
theorem hAt_worths (X : K.In h) (G : h.Ns mainGlobals mg) (c : He.SaysX hFa hFn [] hTf hEx w h K) : ∃ fd, At K mg "worths" s_worths ["mint", "n"] (He.ga K "worths") fd := by
  obtain ⟨fd, F⟩ := (c.t.d.def_ 19 (d := hDef "worths" s_worths) rfl)
  exact ⟨fd, h_one (ps := ["mint", "n"]) (h_fun s_worths F) (He.glo_ok X G (c.t.d.fact 31 (f := .glo "worths") rfl)) (fun _ _ _ _ _ _ us hl => match us, hl with | [_, _], _ => rfl) rfl⟩
theorem hAt_struck (X : K.In h) (G : h.Ns mainGlobals mg) (c : He.SaysX hFa hFn [] hTf hEx w h K) : ∃ fd, At K mg "struck" s_struck ["mint"] (He.ga K "struck") fd := by
  obtain ⟨fd, F⟩ := (c.t.d.def_ 20 (d := hDef "struck" s_struck) rfl)
  exact ⟨fd, h_one (ps := ["mint"]) (h_fun s_struck F) (He.glo_ok X G (c.t.d.fact 32 (f := .glo "struck") rfl)) (fun _ _ _ _ _ _ us hl => match us, hl with | [_], _ => rfl) rfl⟩
theorem hAt_change (X : K.In h) (G : h.Ns mainGlobals mg) (c : He.SaysX hFa hFn [] hTf hEx w h K) : ∃ fd, At K mg "change" s_change ["mint", "n", "amount"] (He.ga K "change") fd := by
  obtain ⟨fd, F⟩ := (c.t.d.def_ 21 (d := hDef "change" s_change) rfl)
  exact ⟨fd, h_one (ps := ["mint", "n", "amount"]) (h_fun s_change F) (He.glo_ok X G (c.t.d.fact 33 (f := .glo "change") rfl)) (fun _ _ _ _ _ _ us hl => match us, hl with | [_, _, _], _ => rfl) rfl⟩
theorem hAt_count_given (X : K.In h) (G : h.Ns mainGlobals mg) (c : He.SaysX hFa hFn [] hTf hEx w h K) : ∃ fd, At K mg "count_given" s_count_given ["mint", "n", "amount"] (He.ga K "count_given") fd := by
  obtain ⟨fd, F⟩ := (c.t.d.def_ 22 (d := hDef "count_given" s_count_given) rfl)
  exact ⟨fd, h_one (ps := ["mint", "n", "amount"]) (h_fun s_count_given F) (He.glo_ok X G (c.t.d.fact 34 (f := .glo "count_given") rfl)) (fun _ _ _ _ _ _ us hl => match us, hl with | [_, _, _], _ => rfl) rfl⟩
theorem hAt_most_given (X : K.In h) (G : h.Ns mainGlobals mg) (c : He.SaysX hFa hFn [] hTf hEx w h K) : ∃ fd, At K mg "most_given" s_most_given ["mint", "n", "amount"] (He.ga K "most_given") fd := by
  obtain ⟨fd, F⟩ := (c.t.d.def_ 23 (d := hDef "most_given" s_most_given) rfl)
  exact ⟨fd, h_one (ps := ["mint", "n", "amount"]) (h_fun s_most_given F) (He.glo_ok X G (c.t.d.fact 35 (f := .glo "most_given") rfl)) (fun _ _ _ _ _ _ us hl => match us, hl with | [_, _, _], _ => rfl) rfl⟩
theorem hAt_fewest (X : K.In h) (G : h.Ns mainGlobals mg) (c : He.SaysX hFa hFn [] hTf hEx w h K) : ∃ fd, At K mg "fewest" s_fewest ["mint", "n", "amount"] (He.ga K "fewest") fd := by
  obtain ⟨fd, F⟩ := (c.t.d.def_ 24 (d := hDef "fewest" s_fewest) rfl)
  exact ⟨fd, h_one (ps := ["mint", "n", "amount"]) (h_fun s_fewest F) (He.glo_ok X G (c.t.d.fact 36 (f := .glo "fewest") rfl)) (fun _ _ _ _ _ _ us hl => match us, hl with | [_, _, _], _ => rfl) rfl⟩
theorem hAt_is_right (X : K.In h) (G : h.Ns mainGlobals mg) (c : He.SaysX hFa hFn [] hTf hEx w h K) : ∃ fd, At K mg "is_right" s_is_right ["mint", "n"] (He.ga K "is_right") fd := by
  obtain ⟨fd, F⟩ := (c.t.d.def_ 25 (d := hDef "is_right" s_is_right) rfl)
  exact ⟨fd, h_one (ps := ["mint", "n"]) (h_fun s_is_right F) (He.glo_ok X G (c.t.d.fact 37 (f := .glo "is_right") rfl)) (fun _ _ _ _ _ _ us hl => match us, hl with | [_, _], _ => rfl) rfl⟩
theorem hAt_least_bad (X : K.In h) (G : h.Ns mainGlobals mg) (c : He.SaysX hFa hFn [] hTf hEx w h K) : ∃ fd, At K mg "least_bad" s_least_bad ["mint", "n"] (He.ga K "least_bad") fd := by
  obtain ⟨fd, F⟩ := (c.t.d.def_ 26 (d := hDef "least_bad" s_least_bad) rfl)
  exact ⟨fd, h_one (ps := ["mint", "n"]) (h_fun s_least_bad F) (He.glo_ok X G (c.t.d.fact 38 (f := .glo "least_bad") rfl)) (fun _ _ _ _ _ _ us hl => match us, hl with | [_, _], _ => rfl) rfl⟩
theorem hAt_worse_by (X : K.In h) (G : h.Ns mainGlobals mg) (c : He.SaysX hFa hFn [] hTf hEx w h K) : ∃ fd, At K mg "worse_by" s_worse_by ["mint", "n"] (He.ga K "worse_by") fd := by
  obtain ⟨fd, F⟩ := (c.t.d.def_ 27 (d := hDef "worse_by" s_worse_by) rfl)
  exact ⟨fd, h_one (ps := ["mint", "n"]) (h_fun s_worse_by F) (He.glo_ok X G (c.t.d.fact 39 (f := .glo "worse_by") rfl)) (fun _ _ _ _ _ _ us hl => match us, hl with | [_, _], _ => rfl) rfl⟩
theorem hAt_right (X : K.In h) (G : h.Ns mainGlobals mg) (c : He.SaysX hFa hFn [] hTf hEx w h K) : ∃ fd, At K mg "right" s_right ["mint"] (He.ga K "right") fd := by
  obtain ⟨fd, F⟩ := (c.t.d.def_ 28 (d := hDef "right" s_right) rfl)
  exact ⟨fd, h_one (ps := ["mint"]) (h_fun s_right F) (He.glo_ok X G (c.t.d.fact 40 (f := .glo "right") rfl)) (fun _ _ _ _ _ _ us hl => match us, hl with | [_], _ => rfl) rfl⟩
theorem hAt_always_right (X : K.In h) (G : h.Ns mainGlobals mg) (c : He.SaysX hFa hFn [] hTf hEx w h K) : ∃ fd, At K mg "always_right" s_always_right ["mint"] (He.ga K "always_right") fd := by
  obtain ⟨fd, F⟩ := (c.t.d.def_ 29 (d := hDef "always_right" s_always_right) rfl)
  exact ⟨fd, h_one (ps := ["mint"]) (h_fun s_always_right F) (He.glo_ok X G (c.t.d.fact 41 (f := .glo "always_right") rfl)) (fun _ _ _ _ _ _ us hl => match us, hl with | [_], _ => rfl) rfl⟩
theorem hAt_bad_form (X : K.In h) (G : h.Ns mainGlobals mg) (c : He.SaysX hFa hFn [] hTf hEx w h K) : ∃ fd, At K mg "bad_form" s_bad_form ["mint"] (He.ga K "bad_form") fd := by
  obtain ⟨fd, F⟩ := (c.t.d.def_ 30 (d := hDef "bad_form" s_bad_form) rfl)
  exact ⟨fd, h_one (ps := ["mint"]) (h_fun s_bad_form F) (He.glo_ok X G (c.t.d.fact 42 (f := .glo "bad_form") rfl)) (fun _ _ _ _ _ _ us hl => match us, hl with | [_], _ => rfl) rfl⟩
theorem hAt_worse_form (X : K.In h) (G : h.Ns mainGlobals mg) (c : He.SaysX hFa hFn [] hTf hEx w h K) : ∃ fd, At K mg "worse_form" s_worse_form ["mint"] (He.ga K "worse_form") fd := by
  obtain ⟨fd, F⟩ := (c.t.d.def_ 31 (d := hDef "worse_form" s_worse_form) rfl)
  exact ⟨fd, h_one (ps := ["mint"]) (h_fun s_worse_form F) (He.glo_ok X G (c.t.d.fact 43 (f := .glo "worse_form") rfl)) (fun _ _ _ _ _ _ us hl => match us, hl with | [_], _ => rfl) rfl⟩
theorem hAt_count_form (X : K.In h) (G : h.Ns mainGlobals mg) (c : He.SaysX hFa hFn [] hTf hEx w h K) : ∃ fd, At K mg "count_form" s_count_form ["mint", "sum_so"] (He.ga K "count_form") fd := by
  obtain ⟨fd, F⟩ := (c.t.d.def_ 32 (d := hDef "count_form" s_count_form) rfl)
  exact ⟨fd, h_one (ps := ["mint", "sum_so"]) (h_fun s_count_form F) (He.glo_ok X G (c.t.d.fact 44 (f := .glo "count_form") rfl)) (fun _ _ _ _ _ _ us hl => match us, hl with | [_, _], _ => rfl) rfl⟩
theorem hAt_leavable (X : K.In h) (G : h.Ns mainGlobals mg) (c : He.SaysX hFa hFn [] hTf hEx w h K) : ∃ fd, At K mg "leavable" s_leavable ["mint"] (He.ga K "leavable") fd := by
  obtain ⟨fd, F⟩ := (c.t.d.def_ 33 (d := hDef "leavable" s_leavable) rfl)
  exact ⟨fd, h_one (ps := ["mint"]) (h_fun s_leavable F) (He.glo_ok X G (c.t.d.fact 45 (f := .glo "leavable") rfl)) (fun _ _ _ _ _ _ us hl => match us, hl with | [_], _ => rfl) rfl⟩
theorem hAt_addable (X : K.In h) (G : h.Ns mainGlobals mg) (c : He.SaysX hFa hFn [] hTf hEx w h K) : ∃ fd, At K mg "addable" s_addable ["mint", "menu"] (He.ga K "addable") fd := by
  obtain ⟨fd, F⟩ := (c.t.d.def_ 34 (d := hDef "addable" s_addable) rfl)
  exact ⟨fd, h_one (ps := ["mint", "menu"]) (h_fun s_addable F) (He.glo_ok X G (c.t.d.fact 46 (f := .glo "addable") rfl)) (fun _ _ _ _ _ _ us hl => match us, hl with | [_, _], _ => rfl) rfl⟩
theorem hAt_alike (X : K.In h) (G : h.Ns mainGlobals mg) (c : He.SaysX hFa hFn [] hTf hEx w h K) : ∃ fd, At K mg "alike" s_alike ["one", "other"] (He.ga K "alike") fd := by
  obtain ⟨fd, F⟩ := (c.t.d.def_ 35 (d := hDef "alike" s_alike) rfl)
  exact ⟨fd, h_one (ps := ["one", "other"]) (h_fun s_alike F) (He.glo_ok X G (c.t.d.fact 47 (f := .glo "alike") rfl)) (fun _ _ _ _ _ _ us hl => match us, hl with | [_, _], _ => rfl) rfl⟩
theorem hAt_parting (X : K.In h) (G : h.Ns mainGlobals mg) (c : He.SaysX hFa hFn [] hTf hEx w h K) : ∃ fd, At K mg "parting" s_parting ["one", "other"] (He.ga K "parting") fd := by
  obtain ⟨fd, F⟩ := (c.t.d.def_ 36 (d := hDef "parting" s_parting) rfl)
  exact ⟨fd, h_one (ps := ["one", "other"]) (h_fun s_parting F) (He.glo_ok X G (c.t.d.fact 48 (f := .glo "parting") rfl)) (fun _ _ _ _ _ _ us hl => match us, hl with | [_, _], _ => rfl) rfl⟩
theorem hAt_numbers_told (X : K.In h) (G : h.Ns mainGlobals mg) (c : He.SaysX hFa hFn [] hTf hEx w h K) : ∃ fd, At K mg "numbers_told" s_numbers_told ["mint", "seen"] (He.ga K "numbers_told") fd := by
  obtain ⟨fd, F⟩ := (c.t.d.def_ 37 (d := hDef "numbers_told" s_numbers_told) rfl)
  exact ⟨fd, h_one (ps := ["mint", "seen"]) (h_fun s_numbers_told F) (He.glo_ok X G (c.t.d.fact 49 (f := .glo "numbers_told") rfl)) (fun _ _ _ _ _ _ us hl => match us, hl with | [_, _], _ => rfl) rfl⟩
theorem hAt_mint_text (X : K.In h) (G : h.Ns mainGlobals mg) (c : He.SaysX hFa hFn [] hTf hEx w h K) : ∃ fd, At K mg "mint_text" s_mint_text ["mint"] (He.ga K "mint_text") fd := by
  obtain ⟨fd, F⟩ := (c.t.d.def_ 38 (d := hDef "mint_text" s_mint_text) rfl)
  exact ⟨fd, h_one (ps := ["mint"]) (h_fun s_mint_text F) (He.glo_ok X G (c.t.d.fact 50 (f := .glo "mint_text") rfl)) (fun _ _ _ _ _ _ us hl => match us, hl with | [_], _ => rfl) rfl⟩
theorem hAt__law_came (X : K.In h) (G : h.Ns mainGlobals mg) (c : He.SaysX hFa hFn [] hTf hEx w h K) : ∃ fd, At K mg "_law_came" s__law_came ["call_so"] (He.ga K "_law_came") fd := by
  obtain ⟨fd, F⟩ := (c.t.d.def_ 39 (d := hDef "_law_came" s__law_came) rfl)
  exact ⟨fd, h_one (ps := ["call_so"]) (h_fun s__law_came F) (He.glo_ok X G (c.t.d.fact 51 (f := .glo "_law_came") rfl)) (fun _ _ _ _ _ _ us hl => match us, hl with | [_], _ => rfl) rfl⟩
theorem hAt__law_all_say (X : K.In h) (G : h.Ns mainGlobals mg) (c : He.SaysX hFa hFn [] hTf hEx w h K) : ∃ fd, At K mg "_law_all_say" s__law_all_say ["calls_so", "word"] (He.ga K "_law_all_say") fd := by
  obtain ⟨fd, F⟩ := (c.t.d.def_ 40 (d := hDef "_law_all_say" s__law_all_say) rfl)
  exact ⟨fd, h_one (ps := ["calls_so", "word"]) (h_fun s__law_all_say F) (He.glo_ok X G (c.t.d.fact 52 (f := .glo "_law_all_say") rfl)) (fun _ _ _ _ _ _ us hl => match us, hl with | [_, _], _ => rfl) rfl⟩
theorem hAt__law_of_mint (X : K.In h) (G : h.Ns mainGlobals mg) (c : He.SaysX hFa hFn [] hTf hEx w h K) : ∃ fd, At K mg "_law_of_mint" s__law_of_mint ["mint"] (He.ga K "_law_of_mint") fd := by
  obtain ⟨fd, F⟩ := (c.t.d.def_ 41 (d := hDef "_law_of_mint" s__law_of_mint) rfl)
  exact ⟨fd, h_one (ps := ["mint"]) (h_fun s__law_of_mint F) (He.glo_ok X G (c.t.d.fact 53 (f := .glo "_law_of_mint") rfl)) (fun _ _ _ _ _ _ us hl => match us, hl with | [_], _ => rfl) rfl⟩
theorem hAt__law_of_number (X : K.In h) (G : h.Ns mainGlobals mg) (c : He.SaysX hFa hFn [] hTf hEx w h K) : ∃ fd, At K mg "_law_of_number" s__law_of_number ["mint", "n"] (He.ga K "_law_of_number") fd := by
  obtain ⟨fd, F⟩ := (c.t.d.def_ 42 (d := hDef "_law_of_number" s__law_of_number) rfl)
  exact ⟨fd, h_one (ps := ["mint", "n"]) (h_fun s__law_of_number F) (He.glo_ok X G (c.t.d.fact 54 (f := .glo "_law_of_number") rfl)) (fun _ _ _ _ _ _ us hl => match us, hl with | [_, _], _ => rfl) rfl⟩
theorem hEa (X : K.In h) (G : h.Ns mainGlobals mg) (c : He.SaysX hFa hFn [] hTf hEx w h K) : Errs mg (eaK K) := ⟨(He.glo_ok X G (c.t.d.fact 0 (f := .glo "InvalidMint") rfl)), (He.glo_ok X G (c.t.d.fact 1 (f := .glo "InvalidNumber") rfl)), (He.glo_ok X G (c.t.d.fact 2 (f := .glo "InvalidAmount") rfl)), (He.glo_ok X G (c.t.d.fact 3 (f := .glo "InvalidSum") rfl)), (He.glo_ok X G (c.t.d.fact 4 (f := .glo "InvalidCoin") rfl)), (He.glo_ok X G (c.t.d.fact 5 (f := .glo "InvalidMenu") rfl)), (He.glo_ok X G (c.t.d.fact 6 (f := .glo "InvalidSeen") rfl)), (He.glo_ok X G (c.t.d.fact 7 (f := .glo "InvalidText") rfl)), (He.glo_ok X G (c.t.d.fact 8 (f := .glo "NotStruck") rfl)), (He.glo_ok X G (c.t.d.fact 9 (f := .glo "TooMuch") rfl)), (He.glo_ok X G (c.t.d.fact 10 (f := .glo "NothingLeft") rfl)), (He.glo_ok X G (c.t.d.fact 11 (f := .glo "MintError") rfl))⟩
theorem hTop (X : K.In h) (G : h.Ns mainGlobals mg) (c : He.SaysX hFa hFn [] hTf hEx w h K) : Top K mg (eaK K) (faOf mg) := ⟨hEa X G c,
  (let ⟨fd, A⟩ := hAt__law_spring X G c; ⟨_, fd, A⟩),
  (let ⟨fd, A⟩ := hAt__law_pick X G c; ⟨_, fd, A⟩),
  (let ⟨fd, A⟩ := hAt__law_coin X G c; ⟨_, fd, A⟩),
  (let ⟨fd, A⟩ := hAt__law_mint X G c; ⟨_, fd, A⟩),
  (let ⟨fd, A⟩ := hAt__law_error_of X G c; ⟨_, fd, A⟩),
  (let ⟨fd, A⟩ := hAt_is_wide X G c; ⟨_, fd, A⟩),
  (let ⟨fd, A⟩ := hAt_is_within X G c; ⟨_, fd, A⟩),
  (let ⟨fd, A⟩ := hAt_is_coin X G c; ⟨_, fd, A⟩),
  (let ⟨fd, A⟩ := hAt_is_fit X G c; ⟨_, fd, A⟩),
  (let ⟨fd, A⟩ := hAt_look_at_mint X G c; ⟨_, fd, A⟩),
  (let ⟨fd, A⟩ := hAt_look_at_number X G c; ⟨_, fd, A⟩),
  (let ⟨fd, A⟩ := hAt_look_at_amount X G c; ⟨_, fd, A⟩),
  (let ⟨fd, A⟩ := hAt_worths_by X G c; ⟨_, fd, A⟩),
  (let ⟨fd, A⟩ := hAt_struck_by X G c; ⟨_, fd, A⟩),
  (let ⟨fd, A⟩ := hAt_look_at_struck X G c; ⟨_, fd, A⟩),
  (let ⟨fd, A⟩ := hAt_look_at_all X G c; ⟨_, fd, A⟩),
  (let ⟨fd, A⟩ := hAt_look_at_both X G c; ⟨_, fd, A⟩),
  (let ⟨fd, A⟩ := hAt_in_order X G c; ⟨_, fd, A⟩),
  (let ⟨fd, A⟩ := hAt_is_struck X G c; ⟨_, fd, A⟩),
  (let ⟨fd, A⟩ := hAt_worths X G c; ⟨_, fd, A⟩),
  (let ⟨fd, A⟩ := hAt_struck X G c; ⟨_, fd, A⟩),
  (let ⟨fd, A⟩ := hAt_change X G c; ⟨_, fd, A⟩),
  (let ⟨fd, A⟩ := hAt_count_given X G c; ⟨_, fd, A⟩),
  (let ⟨fd, A⟩ := hAt_most_given X G c; ⟨_, fd, A⟩),
  (let ⟨fd, A⟩ := hAt_fewest X G c; ⟨_, fd, A⟩),
  (let ⟨fd, A⟩ := hAt_is_right X G c; ⟨_, fd, A⟩),
  (let ⟨fd, A⟩ := hAt_least_bad X G c; ⟨_, fd, A⟩),
  (let ⟨fd, A⟩ := hAt_worse_by X G c; ⟨_, fd, A⟩),
  (let ⟨fd, A⟩ := hAt_right X G c; ⟨_, fd, A⟩),
  (let ⟨fd, A⟩ := hAt_always_right X G c; ⟨_, fd, A⟩),
  (let ⟨fd, A⟩ := hAt_bad_form X G c; ⟨_, fd, A⟩),
  (let ⟨fd, A⟩ := hAt_worse_form X G c; ⟨_, fd, A⟩),
  (let ⟨fd, A⟩ := hAt_count_form X G c; ⟨_, fd, A⟩),
  (let ⟨fd, A⟩ := hAt_leavable X G c; ⟨_, fd, A⟩),
  (let ⟨fd, A⟩ := hAt_addable X G c; ⟨_, fd, A⟩),
  (let ⟨fd, A⟩ := hAt_alike X G c; ⟨_, fd, A⟩),
  (let ⟨fd, A⟩ := hAt_parting X G c; ⟨_, fd, A⟩),
  (let ⟨fd, A⟩ := hAt_numbers_told X G c; ⟨_, fd, A⟩),
  (let ⟨fd, A⟩ := hAt_mint_text X G c; ⟨_, fd, A⟩),
  (let ⟨fd, A⟩ := hAt__law_came X G c; ⟨_, fd, A⟩),
  (let ⟨fd, A⟩ := hAt__law_all_say X G c; ⟨_, fd, A⟩),
  (let ⟨fd, F⟩ := (c.t.d.def_ 44 (d := hMeth "Till" "__init__" "Till.__init__" s_Till_init) rfl); ⟨_, _, fd, h_mk X G (c.t.d.fact 56 (f := .glo "Till") rfl) (c.t.d.fact 58 (f := .mkr "Till") rfl), ⟨h_fun s_Till_init F, (h_fun s_Till_init F).binds (ps := ["self", "mint", "n"]) fun _ _ _ _ _ _ us hl => match us, hl with | [_, _, _], _ => rfl⟩⟩),
  (let ⟨fd, F⟩ := (c.t.d.def_ 45 (d := hMeth "Mint" "__init__" "Mint.__init__" s_Mint_init) rfl); ⟨_, _, fd, h_mk X G (c.t.d.fact 57 (f := .glo "Mint") rfl) (c.t.d.fact 59 (f := .mkr "Mint") rfl), h_fun s_Mint_init F⟩),
  He.free_ok X G (c.t.d.fact 60 (f := .free "ValueError") rfl),
  He.free_ok X G (c.t.d.fact 61 (f := .free "abs") rfl),
  He.free_ok X G (c.t.d.fact 62 (f := .free "all") rfl),
  He.free_ok X G (c.t.d.fact 63 (f := .free "bool") rfl),
  He.free_ok X G (c.t.d.fact 64 (f := .free "int") rfl),
  He.free_ok X G (c.t.d.fact 65 (f := .free "isinstance") rfl),
  He.free_ok X G (c.t.d.fact 66 (f := .free "len") rfl),
  He.free_ok X G (c.t.d.fact 67 (f := .free "list") rfl),
  He.free_ok X G (c.t.d.fact 68 (f := .free "min") rfl),
  He.free_ok X G (c.t.d.fact 69 (f := .free "range") rfl),
  He.free_ok X G (c.t.d.fact 70 (f := .free "set") rfl),
  He.free_ok X G (c.t.d.fact 71 (f := .free "sorted") rfl),
  He.free_ok X G (c.t.d.fact 72 (f := .free "tuple") rfl),
  He.free_ok X G (c.t.d.fact 73 (f := .free "zip") rfl),
  He.int_ok X G (c.t.d.fact 74 (f := .int "FAR" (1000000000000000000000000000000)) rfl),
  He.int_ok X G (c.t.d.fact 75 (f := .int "WIDE" (10000000000000000000000000000000)) rfl),
  h_exc (c.t.d.fact 76 (f := .exc "InvalidAmount") rfl),
  h_exc (c.t.d.fact 77 (f := .exc "InvalidMint") rfl),
  h_exc (c.t.d.fact 78 (f := .exc "InvalidNumber") rfl),
  h_exc (c.t.d.fact 79 (f := .exc "NotStruck") rfl)⟩
theorem hLaw {l : PySem.W.OpenLaw} (X : K.In h) (G : h.Ns mainGlobals mg) (c : He.SaysX hFa hFn [] hTf hEx w h K) {fa : Addr} (hfa : mg "law" = some (.ref fa)) : LawAtS l w K CX0 13 63 "script" mg fa h := by
  obtain ⟨m1, m2⟩ := He.ba c.more
  obtain ⟨m3, m4⟩ := He.ba m2
  obtain ⟨m5, m6⟩ := He.ba m4
  obtain ⟨q0, F0⟩ := (c.t.d.def_ 43 (d := hDef "law" s_law) rfl)
  have D0 : Fun K "law" "law" s_law (He.ga K "law") q0 := h_fun s_law F0
  obtain ⟨q1, A1⟩ := hAt__law_of_mint X G c
  obtain ⟨q2, A2⟩ := hAt__law_of_number X G c
  obtain ⟨c0, R0⟩ := tbf (x := "law") (st := s_law) D0 c (.head _)
  obtain ⟨c1, R1⟩ := tbf A1.fn c (.tail _ (.head _))
  obtain ⟨c2, R2⟩ := tbf A2.fn c (.tail _ (.tail _ (.head _)))
  obtain ⟨⟨_, _, _, _, _, _, _, _, rfl, a0⟩, b0, ⟨_, _, _, _, d0, e0⟩, i0, j0, k0⟩ := R0
  obtain ⟨⟨_, _, _, _, _, _, _, _, rfl, a1⟩, b1, ⟨_, _, _, _, d1, e1⟩, i1, j1, k1⟩ := R1
  obtain ⟨⟨_, _, _, _, _, _, _, _, rfl, a2⟩, b2, ⟨_, _, _, _, d2, e2⟩, i2, j2, k2⟩ := R2
  exact lawAt3 X hfa (He.glo_ok X G (c.t.d.fact 55 (f := .glo "law") rfl)) a0 b0 d0 e0 i0 j0 k0 a1 b1 d1 e1 i1 j1 k1 a2 b2 d2 e2 i2 j2 k2 (nb m3) (nb m5) (nb m6) A1 A2 (fun s v => .of_eq rfl) (law_fin (hTop X G c) (errs_all m1))
end
end Gf
open PySem PySem.W PyProof.Rows
set_option maxHeartbeats 0 in
theorem PySem.Challenge.cw_giveform_k12_what_is_refused_holds : PySem.Challenge.rw_giveform_k12_what_is_refused.Holds := by
  w_on; o_law
  refine HandSHeadRun.head_any (r := Gf.hR) (q := PySem.W.view Gf.hR.prog [116]) (H := Gf.hK) (ob := Gf.hOb) (M := 8000) (loose := Gf.hLoose) (d := HandSHeadRun.topDef Gf.hR.prog 116) (kwd := []) Gf.hOb_ok
    (by kernel_rfl) (fun s => by kernel_rfl) Gf.hRun (by kernel_rfl) (by kernel_rfl) (by kernel_rfl) (by rfl) (by first | assumption | decide +kernel) (by decide +kernel) ⟨rfl, rfl, rfl, rfl, rfl, by decide +kernel⟩ ?promised ?walked
  case promised => w_witness2
  case walked =>
    refine LamX.walk_ofTsE (l := PySem.Challenge.rw_giveform_k12_what_is_refused) (n := 63) (k := 13) (x := "script") (CX := fun _ => L2.CX0) rfl (by decide) (by kernel_rfl) ⟨rfl, by decide, by decide⟩ ?read (fun _ _ _ _ _ z => z)
    intro w mg fa h said G atLaw
    obtain ⟨K, X, c⟩ := said
    have nm : (HandSHeadRun.topDef Gf.hR.prog 116).name = ("law" : PySem.Str) := by kernel_rfl
    rw [nm] at atLaw
    exact ⟨K, X, Gf.hLaw X G c atLaw⟩
