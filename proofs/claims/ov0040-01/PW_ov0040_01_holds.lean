import PyProof.Rows.All
import Wide.All
import OpenK.AllK
import Wide.FinOn
import PySem.Challenge.RW_ov0040_01
set_option Elab.async false
set_option maxRecDepth 100000
section
open PySem PySem.W PyProof.Rows
namespace Mine
set_option maxRecDepth 100000 in
set_option maxHeartbeats 8000000 in
open_top hd for PySem.Challenge.rw_ov0040_01
end Mine
end
section
open PySem PySem.W PySem.Calls PyProof.Rows
namespace Mine

noncomputable abbrev Led := List (Addr × Obj)
noncomputable abbrev Loc := List (Str × Value)
noncomputable abbrev up (s : Shared) (h : Heap) (t : Nat) : Shared := { s with heap := h, toks := t }
noncomputable def Sub (Z Z' : Led) : Prop := ∀ p ∈ Z, p ∈ Z'
theorem Sub.refl (Z : Led) : Sub Z Z := fun _ h => h
theorem Sub.trans {a b c : Led} (x : Sub a b) (y : Sub b c) : Sub a c := fun p h => y p (x p h)
theorem Sub.cons (x : Addr × Obj) (Z : Led) : Sub Z (x :: Z) := fun _ h => .tail _ h

structure St (h₀ : Heap) (L : Addr) (h : Heap) (l : Loc) (M Z : Led) : Prop where
  fr : ∃ m, Fr h₀ L h m ∧ ∀ x v, l.lookup x = some v → m x = some v
  N : News h₀ L h (M ++ Z)
  nd : M.Pairwise (fun p q => p.1 ≠ q.1)
  sep : ∀ p ∈ M, ∀ q ∈ Z, p.1 ≠ q.1

noncomputable abbrev PG : Program := PySem.Challenge.rw_ov0040_01.row.prog
noncomputable abbrev KK (w : World) : Frag := Mine.hd.heap_39 w.params

structure Base (w : World) (tp : Program) (loose : List Str) (mean : ExcName → Option Value) (mg mb : Str → Option Value) (h₀ : Heap) : Prop where
  X : (KK w).In h₀
  T : Top tp loose mean mg mb h₀
  C : CodeHd h₀ 106 104

structure Rm (A : Around) (n : Nat) : Prop where
  hh : A.handled = none
  hd : A.depth + n < recursionLimit
  hu : A.units + 4 * n + 80 < cLine

theorem Rm.deeper {A : Around} {n : Nat} {env : Env} (R : Rm A (n + 1)) : Rm (A.deeper env) n :=
  ⟨R.hh, by have := R.hd; simp only [Around.deeper]; lia, by have := R.hu; simp only [Around.deeper]; lia⟩
theorem Rm.in1 {A : Around} {n : Nat} (R : Rm A (n + 1)) : Rm A.in1 n :=
  ⟨R.hh, by have := R.hd; show A.depth + n < _; exact Nat.le_of_lt (by assumption), by have := R.hu; show A.units + 1 + 4 * n + 80 < _; lia⟩
theorem Rm.less {A : Around} {n k : Nat} (R : Rm A n) (h : k ≤ n := by omega) : Rm A k :=
  ⟨R.hh, by have := R.hd; lia, by have := R.hu; omega⟩
theorem Rm.room {A : Around} {n : Nat} (R : Rm A n) : A.depth < recursionLimit := by have := R.hd; omega
theorem Rm.units {A : Around} {n : Nat} (R : Rm A n) : A.units < cLine := by have := R.hu; lia

section
variable {w : World} {tp : Program} {loose : List Str} {mean : ExcName → Option Value} {mg mb : Str → Option Value} {h₀ g : Heap}
theorem Base.keeps (B : Base w tp loose mean mg mb h₀) (k : h₀.StaysIn g) : Base w tp loose mean mg mb g :=
  ⟨B.X.keeps k, B.T.keeps k, B.C.keeps k⟩
end

section
variable {h₀ h h' : Heap} {L : Addr} {l l' : Loc} {M M' M₁ M₂ Z Z' : Led} {a : Addr} {o o' : Obj} {x : Str} {v : Value}

theorem St.loc (S : St h₀ L h l M Z) (hl : ∀ p ∈ l', l.lookup p.1 = some p.2) : St h₀ L h l' M Z := by
  obtain ⟨m, F, hm⟩ := S.fr
  refine ⟨⟨m, F, fun x v e => hm x v ?_⟩, S.N, S.nd, S.sep⟩
  have : ∀ (l' : Loc), (∀ p ∈ l', l.lookup p.1 = some p.2) → l'.lookup x = some v → l.lookup x = some v := by
    intro l'
    induction l' with
    | nil => intro _ e; cases e
    | cons p r ih =>
      intro hp e
      obtain ⟨y, u⟩ := p
      rw [List.lookup_cons] at e
      cases hxy : (x == y) with
      | true =>
        rw [hxy] at e
        have q := hp (y, u) (.head _)
        rw [beq_iff_eq.mp hxy]
        cases e; exact q
      | false =>
        rw [hxy] at e
        exact ih (fun p hp' => hp p (.tail _ hp')) e
  exact this l' hl e

theorem St.get (S : St h₀ L h l M Z) (hm : (a, o) ∈ M ++ Z) : h.get? a = some o := (S.N _ hm).1
theorem St.getM (S : St h₀ L h l M Z) (hm : (a, o) ∈ M) : h.get? a = some o := S.get (List.mem_append.mpr (.inl hm))
theorem St.getZ (S : St h₀ L h l M Z) (hm : (a, o) ∈ Z) : h.get? a = some o := S.get (List.mem_append.mpr (.inr hm))

theorem St.lt (S : St h₀ L h l M Z) (hm : (a, o) ∈ M ++ Z) : a < h.objs.size := Heap.lt_size (S.get hm)

theorem St.subZ (S : St h₀ L h l M Z) (hs : Sub Z' Z) : St h₀ L h l M Z' :=
  ⟨S.fr, fun p hp => S.N p ((List.mem_append.mp hp).elim (fun q => List.mem_append.mpr (.inl q)) fun q => List.mem_append.mpr (.inr (hs p q))), S.nd, fun p hp q hq => S.sep p hp q (hs q hq)⟩
theorem St.tail {p : Addr × Obj} (S : St h₀ L h l (p :: M) Z) : St h₀ L h l M Z :=
  ⟨S.fr, fun q hq => S.N q ((List.mem_append.mp hq).elim (fun r => List.mem_append.mpr (.inl (.tail _ r))) fun r => List.mem_append.mpr (.inr r)), (List.pairwise_cons.mp S.nd).2, fun p' hp q hq => S.sep p' (.tail _ hp) q hq⟩
theorem St.perm (S : St h₀ L h l M Z) (hp : M.Perm M') : St h₀ L h l M' Z :=
  ⟨S.fr, fun q hq => S.N q ((List.mem_append.mp hq).elim (fun r => List.mem_append.mpr (.inl (hp.mem_iff.mpr r))) fun r => List.mem_append.mpr (.inr r)),
   (hp.pairwise_iff (fun {_ _} h e => h e.symm)).mp S.nd, fun p' hp' q hq => S.sep p' (hp.mem_iff.mpr hp') q hq⟩
/-- a mutable thing is frozen -/
theorem St.freeze {p : Addr × Obj} (S : St h₀ L h l (p :: M) Z) : St h₀ L h l M (p :: Z) :=
  ⟨S.fr, fun q hq => S.N q (by
      rcases List.mem_append.mp hq with r | r
      · exact List.mem_append.mpr (.inl (.tail _ r))
      · rcases List.mem_cons.mp r with rfl | r
        · exact List.mem_append.mpr (.inl (.head _))
        · exact List.mem_append.mpr (.inr r)), (List.pairwise_cons.mp S.nd).2, fun p' hp q hq => by
      rcases List.mem_cons.mp hq with rfl | hq
      · exact fun e => (List.pairwise_cons.mp S.nd).1 p' hp e.symm
      · exact S.sep p' (.tail _ hp) q hq⟩

theorem St.updE (S : St h₀ L h l (M₁ ++ (a, o) :: M₂) Z) (hs : Heap.ExtBut a h h') (ho : h'.get? a = some o') : St h₀ L h' l (M₁ ++ (a, o') :: M₂) Z := by
  obtain ⟨m, F, hm⟩ := S.fr
  have P := S.N (a, o) (by simp)
  have pw := List.pairwise_append.mp S.nd
  have h1 : ∀ p ∈ M₁, p.1 ≠ a := fun p hp => pw.2.2 p hp (a, o) (.head _)
  have h2 : ∀ p ∈ M₂, p.1 ≠ a := fun p hp e => (List.pairwise_cons.mp pw.2.1).1 p hp e.symm
  have h3 : ∀ p ∈ Z, p.1 ≠ a := fun p hp e => S.sep (a, o) (by simp) p hp e.symm
  refine ⟨⟨m, ⟨F.ns.extBut hs (Ne.symm P.2.1), fun b ob e => hs b ob (fun q => ?_) (F.keep b ob e), F.above⟩, hm⟩, fun p hp => ?_, ?_, fun p hp q hq => ?_⟩
  · have := P.2.2; rw [← q, e] at this; cases this
  · rcases List.mem_append.mp hp with hp | hp
    · rcases List.mem_append.mp hp with hp | hp
      · have n := S.N p (by simp [hp]); exact ⟨hs _ _ (h1 p hp) n.1, n.2⟩
      · rcases List.mem_cons.mp hp with rfl | hp
        · exact ⟨ho, P.2⟩
        · have n := S.N p (by simp [hp]); exact ⟨hs _ _ (h2 p hp) n.1, n.2⟩
    · have n := S.N p (by simp [hp]); exact ⟨hs _ _ (h3 p hp) n.1, n.2⟩
  · refine List.pairwise_append.mpr ⟨pw.1, ?_, fun p hp q hq => ?_⟩
    · exact List.pairwise_cons.mpr ⟨(List.pairwise_cons.mp pw.2.1).1, (List.pairwise_cons.mp pw.2.1).2⟩
    · rcases List.mem_cons.mp hq with rfl | hq
      · exact h1 p hp
      · exact pw.2.2 p hp q (.tail _ hq)
  · rcases List.mem_append.mp hp with hp | hp
    · exact S.sep p (by simp [hp]) q hq
    · rcases List.mem_cons.mp hp with rfl | hp
      · exact S.sep (a, o) (by simp) q hq
      · exact S.sep p (by simp [hp]) q hq
theorem St.upd (S : St h₀ L h l (M₁ ++ (a, o) :: M₂) Z) (hs : Heap.SameBut a h h') (ho : h'.get? a = some o') : St h₀ L h' l (M₁ ++ (a, o') :: M₂) Z := S.updE hs.extBut ho

/-- the frame's own dict turned, or nothing of the ledgers' -/
theorem St.frame {m' : Str → Option Value} (S : St h₀ L h l M Z) (F : Fr h₀ L h' m') (hs : ∀ b, b ≠ L → ∀ o, h.get? b = some o → h'.get? b = some o) (hm : ∀ x v, l'.lookup x = some v → m' x = some v) : St h₀ L h' l' M Z :=
  ⟨⟨m', F, hm⟩, fun p hp => ⟨hs p.1 (S.N p hp).2.1 _ (S.N p hp).1, (S.N p hp).2⟩, S.nd, S.sep⟩

theorem St.keep (S : St h₀ L h l M Z) (k : ∀ b o, h.get? b = some o → h'.get? b = some o) : St h₀ L h' l M Z := by
  obtain ⟨m, F, hm⟩ := S.fr
  exact ⟨⟨m, ⟨F.ns.keeps k, fun b o e => k b o (F.keep b o e), F.above⟩, hm⟩, fun p hp => ⟨k _ _ (S.N p hp).1, (S.N p hp).2⟩, S.nd, S.sep⟩

/-- a new thing, mutable -/
theorem St.push (S : St h₀ L h l M Z) (o : Obj) (hf : o.isFreed = false := by rfl) : St h₀ L (h.push o) l ((h.objs.size, o) :: M) Z := by
  obtain ⟨m, F, hm⟩ := S.fr
  exact ⟨⟨m, F.push o, hm⟩, S.N.push F o hf, List.pairwise_cons.mpr ⟨fun p hp e => Nat.lt_irrefl _ (e ▸ S.lt (a := p.1) (o := p.2) (List.mem_append.mpr (.inl hp))), S.nd⟩,
    fun p hp q hq => by
      rcases List.mem_cons.mp hp with rfl | hp
      · exact fun e => Nat.lt_irrefl _ (e ▸ S.lt (a := q.1) (o := q.2) (List.mem_append.mpr (.inr hq)))
      · exact S.sep p hp q hq⟩
theorem St.pushZ (S : St h₀ L h l M Z) (o : Obj) (hf : o.isFreed = false := by rfl) : St h₀ L (h.push o) l M ((h.objs.size, o) :: Z) := (S.push o hf).freeze

theorem St.above (S : St h₀ L h l M Z) : h₀.objs.size ≤ L ∧ L < h.objs.size := by
  obtain ⟨m, F, _⟩ := S.fr; exact ⟨F.above, F.ns.lt⟩
theorem St.stays (S : St h₀ L h l M Z) : h₀.StaysIn h := by obtain ⟨m, F, _⟩ := S.fr; exact F.keep

theorem St.stays' (S : St h₀ L h l M Z) : ∀ b o, h₀.get? b = some o → h.get? b = some o := by obtain ⟨m, F, _⟩ := S.fr; exact F.keep
/-- what stands becomes the ground, but for the ledgers -/
theorem St.ground (S : St h₀ L h l M Z) : ∃ g, h₀.StaysIn g ∧ g.objs.size = h.objs.size ∧ (∀ b o, g.get? b = some o → h.get? b = some o) ∧ (∀ p ∈ M ++ Z, g.get? p.1 = none) ∧ (g.get? L).isSome = true ∧
    (∀ h' M' Z', (∀ b o, g.get? b = some o → h'.get? b = some o) → (∀ p ∈ M' ++ Z', h'.get? p.1 = some p.2 ∧ g.get? p.1 = none) → M'.Pairwise (fun p q => p.1 ≠ q.1) → (∀ p ∈ M', ∀ q ∈ Z', p.1 ≠ q.1) → St h₀ L h' l M' Z') := by
  obtain ⟨m, F, hm⟩ := S.fr
  have nm : ∀ b o, h₀.get? b = some o → b ∉ (M ++ Z).map (·.1) := fun b o e q => by
    obtain ⟨p, hp, rfl⟩ := List.mem_map.mp q
    rw [(S.N p hp).2.2] at e; cases e
  have st : h₀.StaysIn (hideAll h ((M ++ Z).map (·.1))) := fun b o e => hideAll_get _ (F.keep b o e) (nm b o e)
  obtain ⟨oL, es, ep, hL, hLd, hLk, hLf⟩ := F.ns
  have nL : L ∉ (M ++ Z).map (·.1) := fun q => by
    obtain ⟨p, hp, e⟩ := List.mem_map.mp q
    exact (S.N p hp).2.1 e
  have hLg := hideAll_get ((M ++ Z).map (·.1)) hL nL
  refine ⟨hideAll h ((M ++ Z).map (·.1)), st, hideAll_size _ _, fun b o e => of_hideAll _ e, fun p hp => hideAll_none _ (List.mem_map_of_mem hp), by rw [hLg]; rfl, ?_⟩
  intro h' M' Z' kp hn nd sep
  refine ⟨⟨m, ⟨⟨oL, es, ep, kp L oL hLg, hLd, hLk, hLf⟩, fun b o e => kp b o (st b o e), F.above⟩, hm⟩, fun p hp => ⟨(hn p hp).1, fun q => ?_, ?_⟩, nd, sep⟩
  · have := (hn p hp).2; rw [q, hLg] at this; cases this
  · cases q : h₀.get? p.1 with
    | none => rfl
    | some o => have := (hn p hp).2; rw [st _ _ q] at this; cases this
/-- entering a frame of its own -/
theorem St.enter (S : St h₀ L h l M Z) : ∃ g, h₀.StaysIn g ∧ g.objs.size = h.objs.size ∧ (∀ b o, g.get? b = some o → h.get? b = some o) ∧ (∀ p ∈ M ++ Z, g.get? p.1 = none) ∧
    (∀ L' h' l' M' Z', St g L' h' l' M' Z' → St h₀ L h' l M' Z') := by
  obtain ⟨g, a, b, c, d, _, k⟩ := S.ground
  exact ⟨g, a, b, c, d, fun L' h' l' M' Z' S' => k h' M' Z' S'.stays' (fun p hp => ⟨(S'.N p hp).1, (S'.N p hp).2.2⟩) S'.nd S'.sep⟩

/-- the state in a new frame, over the ground -/
theorem St.newFrame {g : Heap} {L' : Addr} {m' : Str → Option Value} (S : St h₀ L h l M Z) (hg : g.objs.size = h.objs.size) (hgh : ∀ b o, g.get? b = some o → h.get? b = some o) (hn : ∀ p ∈ M ++ Z, g.get? p.1 = none)
    (hns : h'.Ns L' m') (hL : h.objs.size ≤ L') (k : ∀ b o, h.get? b = some o → h'.get? b = some o) (hm : ∀ x v, l'.lookup x = some v → m' x = some v) : St g L' h' l' M Z :=
  ⟨⟨m', ⟨hns, fun b o e => k b o (hgh b o e), by rw [hg]; exact hL⟩, hm⟩, fun p hp => ⟨k _ _ (S.N p hp).1, Nat.ne_of_lt (Nat.lt_of_lt_of_le (Heap.lt_size (S.N p hp).1) hL), hn p hp⟩, S.nd, S.sep⟩
end

theorem lk_here {x : Str} {v : Value} {l : Loc} : ((x, v) :: l).lookup x = some v := by rw [List.lookup_cons]; simp
theorem lk_there {x y : Str} {v u : Value} {l : Loc} (h : (x == y) = false) (k : l.lookup x = some v) : ((y, u) :: l).lookup x = some v := by rw [List.lookup_cons, h]; exact k
theorem loc_set {l : Loc} {m : Str → Option Value} {x : Str} {v : Value} (hm : ∀ x v, l.lookup x = some v → m x = some v) :
    ∀ y u, ((x, v) :: l).lookup y = some u → (if y = x then some v else m y) = some u := by
  intro y u e
  rw [List.lookup_cons] at e
  by_cases h : y = x
  · subst h; simp at e; simp [e]
  · have : (y == x) = false := beq_eq_false_iff_ne.mpr h
    rw [this] at e
    rw [if_neg h]; exact hm y u e

end Mine
end
section
open PySem PySem.W PySem.Calls PyProof.Rows
namespace Mine
section
variable {prog : Program} {w : World} {M' : Model} {A : Around} {E : Value → Shared → Prop} {s : Shared} {h₀ h : Heap} {t : Nat} {L : Addr} {l : Loc} {M Z : Led} {env : Env}
  {tp : Program} {loose : List Str} {mean : ExcName → Option Value} {mg mb : Str → Option Value}

theorem e_loc {x : Str} {pos : Pos} {v : Value} {Q : Value → Shared → Prop} (S : St h₀ L h l M Z) (hv : l.lookup x = some v) (k : Q v (up s h t))
    (hL : env.locals = L := by rfl) (hk : env.scope.kind = .function := by rfl) (hx : env.kindOf x = some .local := by rfl) (hd : (x == ("__debug__" : Str)) = false := by decide +kernel) :
    wpAny M' A (eval (.Name x pos) env) Q E (up s h t) := by
  obtain ⟨m, F, hm⟩ := S.fr
  exact wpAny_Name (wpAny_loadName_local hk hx (hL ▸ F.ns) (hm x v hv) k) hd
theorem n_loc {x : Str} {v : Value} {Q : Value → Shared → Prop} (S : St h₀ L h l M Z) (hv : l.lookup x = some v) (k : Q v (up s h t))
    (hL : env.locals = L := by rfl) (hk : env.scope.kind = .function := by rfl) (hx : env.kindOf x = some .local := by rfl) :
    wpAny M' A (loadName env x) Q E (up s h t) := by
  obtain ⟨m, F, hm⟩ := S.fr
  exact wpAny_loadName_local hk hx (hL ▸ F.ns) (hm x v hv) k
theorem e_cell {x : Str} {pos : Pos} {v : Value} {c : Addr} {o : Obj} {Q : Value → Shared → Prop} (S : St h₀ L h l M Z) (hc : env.cells.lookup x = some c) (hm : (c, o) ∈ M ++ Z) (hd : o.data = .cell (some v)) (k : Q v (up s h t))
    (hk : env.scope.kind = .function := by rfl) (hx : env.kindOf x = some .cell := by rfl) (hb : (x == ("__debug__" : Str)) = false := by decide +kernel) :
    wpAny M' A (eval (.Name x pos) env) Q E (up s h t) := wpAny_Name (wpAny_loadName_cell hk hx hc ⟨o, S.get hm, hd⟩ k) hb
theorem e_free {x : Str} {pos : Pos} {v : Value} {c : Addr} {o : Obj} {Q : Value → Shared → Prop} (S : St h₀ L h l M Z) (hc : env.cells.lookup x = some c) (hm : (c, o) ∈ M ++ Z) (hd : o.data = .cell (some v)) (k : Q v (up s h t))
    (hk : env.scope.kind = .function := by rfl) (hx : env.kindOf x = some .free := by rfl) (hb : (x == ("__debug__" : Str)) = false := by decide +kernel) (hn : (x == ("__classdict__" : Str)) = false := by decide +kernel) :
    wpAny M' A (eval (.Name x pos) env) Q E (up s h t) := wpAny_Name (wpAny_loadName_free hk hx hc ⟨o, S.get hm, hd⟩ k hn) hb
theorem e_glob {x : Str} {pos : Pos} {v : Value} {Q : Value → Shared → Prop} (B : Base w tp loose mean mg mb h₀) (S : St h₀ L h l M Z) (hg : nsIn (KK w) mainGlobals x = some (some v)) (k : Q v (up s h t))
    (hG : env.globals = mainGlobals := by rfl) (hk : env.scope.kind = .function := by rfl) (hx : env.kindOf x = some .globalImplicit := by rfl) (hd : (x == ("__debug__" : Str)) = false := by decide +kernel) :
    wpAny M' A (eval (.Name x pos) env) Q E (up s h t) :=
  Name_function_global hk hx (loadGlobal_global (env := env) (hG ▸ B.T.g.keeps S.stays) (mg_of B.X B.T.g hg) k) hd
theorem e_bui {x : Str} {pos : Pos} {v : Value} {Q : Value → Shared → Prop} (B : Base w tp loose mean mg mb h₀) (S : St h₀ L h l M Z) (hg : nsIn (KK w) mainGlobals x = some none) (hb : bootBuiltins x = some v) (k : Q v (up s h t))
    (hG : env.globals = mainGlobals := by rfl) (hBn : env.builtins = builtinsNs := by rfl) (hk : env.scope.kind = .function := by rfl) (hx : env.kindOf x = some .globalImplicit := by rfl) (hd : (x == ("__debug__" : Str)) = false := by decide +kernel) (hn : x ≠ "__name__" := by decide +kernel) :
    wpAny M' A (eval (.Name x pos) env) Q E (up s h t) :=
  Name_function_global hk hx (loadGlobal_builtin (env := env) (hG ▸ B.T.g.keeps S.stays) (mg_none_of B.X B.T.g hg) (hBn ▸ B.T.b.keeps S.stays) ((B.T.builtins x hn).trans hb) k) hd

theorem n_store {x : Str} {v : Value} {Q : Unit → Shared → Prop} (S : St h₀ L h l M Z) (k : ∀ h' t', St h₀ L h' ((x, v) :: l) M Z → Q () (up s h' t'))
    (hL : env.locals = L := by rfl) (hk : env.scope.kind = .function := by rfl) (hx : env.kindOf x = some .local := by rfl) :
    wpAny M' A (storeName env x v) Q E (up s h t) := by
  obtain ⟨m, F, hm⟩ := S.fr
  refine wpAny_storeName_local hx (hL ▸ F.ns) (fun h' hn hs => ?_) (by rw [hk]; rfl)
  refine k h' (t + 1) (S.frame (m' := fun y => if y = x then some v else m y) (F.set (hL ▸ hn) (hL ▸ hs)) (fun b hb o e => ?_) (loc_set hm))
  rw [hL] at hs; exact (hs.2 b hb).trans e

theorem n_storeC {x : Str} {v : Value} {c : Addr} {o : Obj} {v₀ : Option Value} {M₁ M₂ : Led} {Q : Unit → Shared → Prop} (S : St h₀ L h l (M₁ ++ (c, o) :: M₂) Z) (hc : env.cells.lookup x = some c) (hd : o.data = .cell v₀)
    (k : ∀ h' o', o'.data = .cell (some v) → St h₀ L h' l (M₁ ++ (c, o') :: M₂) Z → Q () (up s h' t)) (hk : env.scope.kind = .function := by rfl) (hx : env.kindOf x = some .cell := by rfl) :
    wpAny M' A (storeName env x v) Q E (up s h t) := by
  refine wpAny_storeName_cell hk hx hc ⟨o, S.getM (by simp), hd⟩ fun h' hv hs => ?_
  obtain ⟨o', ho', hd'⟩ := hv
  exact k h' o' hd' (S.upd hs ho')

theorem e_int {i : Int} {n : Nat} {pos : Pos} {Q : Value → Shared → Prop} (k : ∀ t', Q (.int i t) (up s h t')) : wpAny M' A (eval (.Constant (.int i) n pos) env) Q E (up s h t) := wpAny_Constant_int (k _)
theorem e_str {x : Str} {n : Nat} {pos : Pos} {Q : Value → Shared → Prop} (k : ∀ t', Q (.str x t) (up s h t')) : wpAny M' A (eval (.Constant (.str x) n pos) env) Q E (up s h t) := Constant_str (k _)
theorem e_none {n : Nat} {pos : Pos} {Q : Value → Shared → Prop} (k : Q .none (up s h t)) : wpAny M' A (eval (.Constant .none n pos) env) Q E (up s h t) := Constant_none k
theorem e_bool {b : Bool} {n : Nat} {pos : Pos} {Q : Value → Shared → Prop} (k : Q (.bool b) (up s h t)) : wpAny M' A (eval (.Constant (.bool b) n pos) env) Q E (up s h t) := Constant_bool k
end

-- what the globals name
theorem g_wall (w : World) : nsIn (KK w) mainGlobals "_law_coins" = some (some (.ref 147)) := rfl
end Mine
end
section
open PySem PySem.W PySem.Calls PyProof.Rows
namespace Mine
section
variable {w : World} {A : Around} {E : Value → Shared → Prop} {s : Shared} {h₀ h : Heap} {t : Nat} {L : Addr} {l : Loc} {M Z : Led} {env : Env}
  {tp : Program} {loose : List Str} {mean : ExcName → Option Value} {mg mb : Str → Option Value} {prog : Program}

theorem call_def {n : Nat} {f : Addr} {fo : Obj} {fd : FuncData} {body : List Stmt} {args : List Value} {binds : Loc} {Q : Value → Shared → Prop}
    (ho : (KK w).lookup f = some fo) (hd : fo.data = .func fd) (hbody : fd.body = .stmts body) (hcd : codeIn (KK w) fd.code fd.qualname = true) (hbind : bindArgs fd ⟨args, []⟩ = pure binds)
    (hcell : ∀ x ∈ fd.scope.names, x.2 ≠ .cell) (hloc : (binds.all fun x => decide (fd.scope.names.lookup x.1 = some .local)) = true)
    (hco : fd.scope.isCoroutine = false) (hgen : fd.scope.isGenerator = false) (hk : fd.scope.kind = .function)
    {l₁ : Loc} (hl : l₁ = binds.reverse)
    (B : Base w tp loose mean mg mb h₀) (S : St h₀ L h l M Z) (R : Rm A (n + 1))
    (k : ∀ g L' h₁ t₁, Base w tp loose mean mg mb g → (∀ L'' h' l' M' Z', St g L'' h' l' M' Z' → St h₀ L h' l M' Z') → St g L' h₁ l₁ M Z → Rm (A.deeper (callEnv fd L' f)) n →
      wpAny (model prog w) (A.deeper (callEnv fd L' f)) (execs body (callEnv fd L' f)) (fun fl s' => Q (match fl with | .ret v => v | _ => .none) s') (fun _ _ => False) (up s h₁ t₁)) :
    wpAny (model prog w) A (call (.ref f) args) Q E (up s h t) := by
  subst hl
  obtain ⟨g, st, hsz, hgh, hn, back⟩ := S.enter
  have Xs := B.X.keeps S.stays
  refine wpAny_call (codeAny_call_def (fd := fd) (body := body) (binds := binds) R.room (Xs _ _ ho) hd (B.T.nolimit.keeps S.stays) (codeRec_of Xs hcd) hbody (BindsTo.of_eq hbind) hcell
    (fun x hx => of_decide_eq_true (List.all_eq_true.mp hloc x hx)) (fun h₁ hns hk₁ => ?_) hco hgen hk)
  have S' := S.newFrame (l' := binds.reverse) hsz hgh hn hns (Nat.le_refl _) hk₁ fun x v e => e
  exact wpAny_mono (k g _ h₁ _ (B.keeps st) back S' R.deeper) (fun fl s' q => q) fun _ _ e => e.elim
end
noncomputable def fdAt (w : World) (a : Addr) : FuncData := match (KK w).lookup a with
  | some ⟨_, _, .func fd, _⟩ => fd
  | _ => default
noncomputable def bdAt (w : World) (a : Addr) : List Stmt := match (fdAt w a).body with
  | .stmts b => b
  | _ => []
end Mine
end
section
open PySem PySem.W PySem.Calls PyProof.Rows
namespace Mine
noncomputable abbrev lO (vs : List Value) (n : Nat) : Obj := W.listOf vs.toArray n
noncomputable abbrev tO (vs : List Value) (n : Nat) : Obj := { cls := .type "tuple", data := .seq vs.toArray n }

section
variable {Z Z' : Led} {v : Value} {ds : List Dat} {i : Int} {x : Str}
theorem d_list (h : DatIn Z v (.list ds)) : ∃ a vs n, v = .ref a ∧ (a, lO vs n) ∈ Z ∧ DatAll Z vs ds := by cases h; exact ⟨_, _, _, rfl, by assumption, by assumption⟩
theorem d_tup (h : DatIn Z v (.tuple ds)) : ∃ a vs n, v = .ref a ∧ (a, tO vs n) ∈ Z ∧ DatAll Z vs ds := by cases h; exact ⟨_, _, _, rfl, by assumption, by assumption⟩
theorem d_int (h : DatIn Z v (.int i)) : ∃ t, v = .int i t := by cases h; exact ⟨_, rfl⟩
theorem d_str (h : DatIn Z v (.str x)) : ∃ t, v = .str x t := by cases h; exact ⟨_, rfl⟩
theorem d_none (h : DatIn Z v .none) : v = .none := by cases h; rfl
theorem d_get {vs : List Value} (h : DatAll Z vs ds) {k : Nat} (hk : k < ds.length) : ∃ hv : k < vs.length, DatIn Z (vs[k]) (ds[k]) := by
  obtain ⟨u, e, d⟩ := h.get hk
  have hl := h.length
  have hv : k < vs.length := by (first | lia | omega)
  refine ⟨hv, ?_⟩
  rw [List.getElem?_eq_getElem hv] at e
  rw [Option.some.inj e]; exact d
theorem d_all {vs : List Value} (hl : vs.length = ds.length) (h : ∀ (k : Nat) (hv : k < vs.length) (hd : k < ds.length), DatIn Z vs[k] ds[k]) : DatAll Z vs ds := by
  induction vs generalizing ds with
  | nil => cases ds with
    | nil => exact .nil
    | cons _ _ => cases hl
  | cons u vs ih => cases ds with
    | nil => cases hl
    | cons d ds => exact .cons (h 0 (by simp) (by simp)) (ih (by simpa using hl) fun k h1 h2 => h (k + 1) (Nat.succ_lt_succ h1) (Nat.succ_lt_succ h2))
end

section
variable {w : World} {A : Around} {E : Value → Shared → Prop} {s : Shared} {h₀ h : Heap} {t : Nat} {L : Addr} {l : Loc} {M M₁ M₂ Z : Led} {env : Env}
  {tp : Program} {loose : List Str} {mean : ExcName → Option Value} {mg mb : Str → Option Value} {prog : Program} {a : Addr} {n : Nat} {xs vs : List Value} {ds es : List Dat} {d e : Dat} {v y : Value} {Q : Value → Shared → Prop}

theorem r_pop (S : St h₀ L h l (M₁ ++ (a, lO (xs ++ [y]) n) :: M₂) Z) (hz : xs.length + 1 ≤ sizeLine)
    (k : ∀ h', St h₀ L h' l (M₁ ++ (a, lO xs (n + 1)) :: M₂) Z → Q y (up s h' t)) : wpAny (model prog w) A (call (.builtin "list.pop") [.ref a]) Q E (up s h t) := by
  have hg := S.getM (a := a) (o := lO (xs ++ [y]) n) (by simp)
  refine call_meets F.slot_list_pop ⟨_, hg, rfl⟩ F.entry_list_pop (F.args_list_pop_1 _) (MeetsSeq.list_pop_last a (xs ++ [y]).toArray n y (by simp) (by simpa using hz)) ⟨hg, ?_⟩
  refine k _ (S.upd (Heap.SameBut.update ..) ((Heap.get?_update_self _ hg rfl).trans ?_))
  have e1 : (xs ++ [y]).eraseIdx xs.length = xs := by
    rw [List.eraseIdx_append_of_length_le (Nat.le_refl _)]; simp
  simp [Obj.mapSeq, Array.eraseIdxIfInBounds, e1]

theorem seqIndex_ok {i : Int} {m : Nat} (h0 : 0 ≤ i) (h1 : i < m) : seqIndex? i m = some i.toNat := by
  unfold seqIndex?
  have : ¬ i < 0 := by (first | lia | omega)
  simp [this]; (first | lia | omega)

theorem r_popAt {i : Int} {u : Tok} (S : St h₀ L h l (M₁ ++ (a, lO xs n) :: M₂) Z) (h0 : 0 ≤ i) (h1 : i < xs.length) (hz : xs.length ≤ 1000) (hy : xs[i.toNat]? = some y)
    (k : ∀ h', St h₀ L h' l (M₁ ++ (a, lO (xs.eraseIdx i.toNat) (n + 1)) :: M₂) Z → Q y (up s h' t)) : wpAny (model prog w) A (call (.builtin "list.pop") [.ref a, .int i u]) Q E (up s h t) := by
  have hg := S.getM (a := a) (o := lO xs n) (by simp)
  refine call_meets F.slot_list_pop ⟨_, hg, rfl⟩ F.entry_list_pop (F.args_list_pop_2 _ _) (MeetsSeq.list_pop_at a xs.toArray n i u i.toNat y (by unfold Builtin.List.listFitsIndex; simp; (first | lia | omega)) (seqIndex_ok h0 (by simpa using h1)) (by simpa using hy) (by simp; exact Nat.le_trans hz (by rw [sizeLine_eq]; decide))) ⟨hg, ?_⟩
  refine k _ (S.upd (Heap.SameBut.update ..) ((Heap.get?_update_self _ hg rfl).trans ?_))
  have q : i.toNat < xs.length := by (first | lia | omega)
  have e : (xs.eraseIdx i.toNat).length ≠ xs.length := by rw [List.length_eraseIdx_of_lt q]; (first | lia | omega)
  simp [Obj.mapSeq, Array.eraseIdxIfInBounds, q]; exact e

theorem r_append (S : St h₀ L h l (M₁ ++ (a, lO xs n) :: M₂) Z) (hz : xs.length ≤ 1000)
    (k : ∀ h', St h₀ L h' l (M₁ ++ (a, lO (xs ++ [y]) (n + 1)) :: M₂) Z → Q .none (up s h' t)) : wpAny (model prog w) A (call (.builtin "list.append") [.ref a, y]) Q E (up s h t) := by
  have hg := S.getM (a := a) (o := lO xs n) (by simp)
  refine append_at (n := n) hg (fun h' hs ho => k h' (S.upd hs (ho.trans ?_))) (by simp; exact Nat.le_trans hz (by rw [sizeLine_eq]; decide))
  simp

theorem r_reverse (S : St h₀ L h l (M₁ ++ (a, lO xs n) :: M₂) Z) (hz : xs.length ≤ 1000)
    (k : ∀ h', St h₀ L h' l (M₁ ++ (a, lO xs.reverse n) :: M₂) Z → Q .none (up s h' t)) : wpAny (model prog w) A (call (.builtin "list.reverse") [.ref a]) Q E (up s h t) := by
  have hg := S.getM (a := a) (o := lO xs n) (by simp)
  refine call_meets F.slot_list_reverse ⟨_, hg, rfl⟩ F.entry_list_reverse (F.args_list_reverse_1 _) (AutoSeq1.list_reverse_list_0 a xs.toArray n (by simp; exact Nat.le_trans hz (by rw [sizeLine_eq]; decide))) ⟨hg, ?_⟩
  refine k _ (S.upd (Heap.SameBut.update ..) ((Heap.get?_update_self _ hg rfl).trans ?_))
  simp [Obj.mapSeq]

/-- an int's place in a list of data -/
theorem r_getL {i : Int} {u : Tok} (S : St h₀ L h l M Z) (hv : DatIn Z v (.list ds)) (h0 : 0 ≤ i) (h1 : i < ds.length) (hz : ds.length ≤ 1000)
    (k : ∀ x (hi : i.toNat < ds.length), DatIn Z x ds[i.toNat] → Q x (up s h t)) : wpAny (model prog w) A (getItem v (.int i u)) Q E (up s h t) := by
  obtain ⟨a, vs, n, rfl, hm, hd⟩ := d_list hv
  have hi : i.toNat < ds.length := by (first | lia | omega)
  obtain ⟨hv, hx⟩ := d_get hd hi
  exact wpAny_getItem_list ⟨_, S.getZ hm, rfl, n, rfl⟩ h0 (by (first | lia | omega)) (by simp [hv]) (k _ hi hx)
theorem r_getT {i : Int} {u : Tok} (S : St h₀ L h l M Z) (hv : DatIn Z v (.tuple ds)) (h0 : 0 ≤ i) (h1 : i < ds.length) (hz : ds.length ≤ 1000)
    (k : ∀ x (hi : i.toNat < ds.length), DatIn Z x ds[i.toNat] → Q x (up s h t)) : wpAny (model prog w) A (getItem v (.int i u)) Q E (up s h t) := by
  obtain ⟨a, vs, n, rfl, hm, hd⟩ := d_tup hv
  have hi : i.toNat < ds.length := by (first | lia | omega)
  obtain ⟨hv, hx⟩ := d_get hd hi
  exact getItem_tuple (items := vs.toArray) ⟨_, S.getZ hm, rfl, n, rfl⟩ (by (first | lia | omega)) (by (first | lia | omega)) (seqIndex_ok h0 (by simp; rw [hd.length]; exact h1)) (by simp [hv]) (k _ hi hx)
theorem typeIs_list (S : St h₀ L h l M Z) (hv : DatIn Z v (.list ds)) : (up s h t).TypeIs v "list" := by
  obtain ⟨a, vs, n, rfl, hm, hd⟩ := d_list hv; exact ⟨_, S.getZ hm, rfl⟩
theorem typeIs_tup (S : St h₀ L h l M Z) (hv : DatIn Z v (.tuple ds)) : (up s h t).TypeIs v "tuple" := by
  obtain ⟨a, vs, n, rfl, hm, hd⟩ := d_tup hv; exact ⟨_, S.getZ hm, rfl⟩
theorem x_getL {value slice : Expr} {i : Int} {u : Tok} (S : St h₀ L h l M Z) (hv : DatIn Z v (.list ds)) (h0 : 0 ≤ i) (h1 : i < ds.length) (hz : ds.length ≤ 1000)
    (k : ∀ x (hi : i.toNat < ds.length), DatIn Z x ds[i.toNat] → Q x (up s h t))
    (hs : ∀ a, subscripted slice false (.ref a) (.int i u) = operate [.ref a, .int i u] (getItem (.ref a) (.int i u)) := by intro _; with_unfolding_all rfl) : wpAny (model prog w) A (subscriptTail value slice v (.int i u)) Q E (up s h t) := by
  obtain ⟨a, vs, n, rfl, hm, hd⟩ := d_list hv
  exact tail_any (typeIs_list S hv) slot_list_getitem.lookup (r_getL S hv h0 h1 hz k) (hs a)
theorem x_getT {value slice : Expr} {i : Int} {u : Tok} (S : St h₀ L h l M Z) (hv : DatIn Z v (.tuple ds)) (h0 : 0 ≤ i) (h1 : i < ds.length) (hz : ds.length ≤ 1000)
    (k : ∀ x (hi : i.toNat < ds.length), DatIn Z x ds[i.toNat] → Q x (up s h t))
    (hs : ∀ a, subscripted slice false (.ref a) (.int i u) = operate [.ref a, .int i u] (getItem (.ref a) (.int i u)) := by intro _; with_unfolding_all rfl) : wpAny (model prog w) A (subscriptTail value slice v (.int i u)) Q E (up s h t) := by
  obtain ⟨a, vs, n, rfl, hm, hd⟩ := d_tup hv
  exact tail_any (typeIs_tup S hv) slot_tuple_getitem.lookup (r_getT S hv h0 h1 hz k) (hs a)

theorem r_lenL (S : St h₀ L h l M Z) (hv : DatIn Z v (.list ds)) (hz : ds.length ≤ 1000) (k : ∀ t' u, Q (.int ds.length u) (up s h t')) : wpAny (model prog w) A (call (.builtin "len") [v]) Q E (up s h t) := by
  obtain ⟨a, vs, n, rfl, hm, hd⟩ := d_list hv
  have hl := hd.length
  refine call_len_list (items := vs.toArray) ⟨_, S.getZ hm, rfl, n, rfl⟩ (by simp; (first | lia | omega)) ?_
  have : ((vs.toArray.size : Nat) : Int) = (ds.length : Int) := by simp [hl]
  rw [this]; exact k _ _
theorem r_lenT (S : St h₀ L h l M Z) (hv : DatIn Z v (.tuple ds)) (hz : ds.length ≤ 1000) (k : ∀ t' u, Q (.int ds.length u) (up s h t')) : wpAny (model prog w) A (call (.builtin "len") [v]) Q E (up s h t) := by
  obtain ⟨a, vs, n, rfl, hm, hd⟩ := d_tup hv
  have hl := hd.length
  refine PyProof.Rows.len_tuple (items := vs.toArray) ⟨_, S.getZ hm, rfl, n, rfl⟩ (by simp; (first | lia | omega)) ?_
  have : ((vs.toArray.size : Nat) : Int) = (ds.length : Int) := by simp [hl]
  rw [this]; exact k _ _
theorem r_lenM (S : St h₀ L h l M Z) (hm : (a, lO xs n) ∈ M) (hz : xs.length ≤ 1000) (k : ∀ t' u, Q (.int xs.length u) (up s h t')) : wpAny (model prog w) A (call (.builtin "len") [.ref a]) Q E (up s h t) := by
  refine call_len_list (items := xs.toArray) ⟨_, S.getM hm, rfl, n, rfl⟩ (by simp; (first | lia | omega)) ?_
  have : ((xs.toArray.size : Nat) : Int) = (xs.length : Int) := by simp
  rw [this]; exact k _ _

theorem r_tuple (S : St h₀ L h l M Z) (hv : DatAll Z vs ds) (hz : ds.length ≤ 1000) (k : ∀ h' a Z', St h₀ L h' l M Z' → Sub Z Z' → DatIn Z' (.ref a) (.tuple ds) → Q (.ref a) (up s h' t)) :
    wpAny (model prog w) A (newTuple vs) Q E (up s h t) := by
  refine wpAny_newObj_type (k _ _ _ (S.pushZ _) (Sub.cons _ _) (.tuple (n := 0) (.head _) (hv.mono (Sub.cons _ _)))) ?_
  show vs.toArray.size ≤ sizeLine; rw [List.size_toArray, hv.length]; exact Nat.le_trans hz (by rw [sizeLine_eq]; decide)
theorem r_list (S : St h₀ L h l M Z) (hz : vs.length ≤ 1000) (k : ∀ h' a, St h₀ L h' l ((a, lO vs 0) :: M) Z → Q (.ref a) (up s h' t)) :
    wpAny (model prog w) A (newList vs) Q E (up s h t) := by
  refine wpAny_newObj_type (k _ _ (S.push _)) ?_
  show vs.toArray.size ≤ sizeLine; rw [List.size_toArray]; exact Nat.le_trans hz (by rw [sizeLine_eq]; decide)
theorem fz_list (S : St h₀ L h l ((a, lO vs n) :: M) Z) (hd : DatAll Z vs ds) : ∃ Z', St h₀ L h l M Z' ∧ Sub Z Z' ∧ DatIn Z' (.ref a) (.list ds) :=
  ⟨_, S.freeze, Sub.cons _ _, .list (.head _) (hd.mono (Sub.cons _ _))⟩

end
end Mine
end
section
open PySem PySem.W PySem.Calls PyProof.Rows
namespace Mine

structure FnOk (w : World) (f : Addr) (ps : List Str) : Prop where
  look : (KK w).lookup f = some ⟨.type "function", none, .func (fdAt w f), #[]⟩
  body : (fdAt w f).body = .stmts (bdAt w f)
  code : codeIn (KK w) (fdAt w f).code (fdAt w f).qualname = true
  cell : (fdAt w f).scope.names.all (fun x => x.2 != .cell) = true
  loc : ps.all (fun x => decide ((fdAt w f).scope.names.lookup x = some .local)) = true
  co : (fdAt w f).scope.isCoroutine = false
  gen : (fdAt w f).scope.isGenerator = false
  kind : (fdAt w f).scope.kind = .function

/-- the frame's environment -/
noncomputable abbrev envAt (w : World) (f L : Addr) : Env := callEnv (fdAt w f) L f

section
variable {w : World} {A : Around} {E : Value → Shared → Prop} {s : Shared} {h₀ h : Heap} {t : Nat} {L : Addr} {l : Loc} {M M₁ M₂ Z : Led} {env : Env}
  {tp : Program} {loose : List Str} {mean : ExcName → Option Value} {mg mb : Str → Option Value} {prog : Program} {a : Addr} {n : Nat} {xs vs : List Value} {ds es : List Dat} {d e : Dat} {v y : Value}

theorem call_fn {f : Addr} {ps : List Str} {args : List Value} {Q : Value → Shared → Prop} (l₁ : Loc) (F : FnOk w f ps) (hb : bindArgs (fdAt w f) ⟨args, []⟩ = (pure (ps.zip args) : Sem Loc)) (hl : l₁ = (ps.zip args).reverse)
    (B : Base w tp loose mean mg mb h₀) (S : St h₀ L h l M Z) (R : Rm A (n + 1))
    (k : ∀ g L' h₁ t₁, Base w tp loose mean mg mb g → (∀ L'' h' l' M' Z', St g L'' h' l' M' Z' → St h₀ L h' l M' Z') → St g L' h₁ l₁ M Z → Rm (A.deeper (envAt w f L')) n →
      wpAny (model prog w) (A.deeper (envAt w f L')) (execs (bdAt w f) (envAt w f L')) (fun fl s' => Q (match fl with | .ret v => v | _ => .none) s') (fun _ _ => False) (up s h₁ t₁)) :
    wpAny (model prog w) A (call (.ref f) args) Q E (up s h t) := by
  refine call_def F.look rfl F.body F.code hb (fun x hx => ?_) ?_ F.co F.gen F.kind hl B S R k
  · have := List.all_eq_true.mp F.cell x hx
    simpa using this
  · refine List.all_eq_true.mpr fun x hx => ?_
    exact List.all_eq_true.mp F.loc x.1 (List.of_mem_zip hx).1

/-- the end of a turn -/
noncomputable def TurnE (s : Shared) (h₀ : Heap) (L : Addr) (it : Addr × Obj) (Z₀ : Led) (J : Loc → Led → Led → Prop) (Q : Flow → Shared → Prop) (f : Flow) (s' : Shared) : Prop :=
  match f with
  | .ret v => Q (.ret v) s'
  | .brk => False
  | _ => ∃ h' t' l' M' Z', s' = up s h' t' ∧ Sub Z₀ Z' ∧ St h₀ L h' l' (it :: M') Z' ∧ J l' M' Z'
theorem TurnE.next {s : Shared} {h₀ h' : Heap} {L : Addr} {it : Addr × Obj} {Z₀ Z' M' : Led} {J : Loc → Led → Led → Prop} {Q : Flow → Shared → Prop} {l' : Loc} {t' : Nat}
    (hs : Sub Z₀ Z') (S : St h₀ L h' l' (it :: M') Z') (j : J l' M' Z') : TurnE s h₀ L it Z₀ J Q .next (up s h' t') := ⟨h', t', l', M', Z', rfl, hs, S, j⟩

theorem own_name {x : Str} {p : Pos} {it v : Value} : letOwnedTupleGo (.Name x p) it v = pure () := rfl

noncomputable def ForP (prog : Program) (w : World) (A : Around) (env : Env) (target : Expr) (body : List Stmt) (Q : Flow → Shared → Prop) (E : Value → Shared → Prop) (it : Value) (s : Shared) : Prop :=
  codeAny (model prog w) A (.forLoop target it body [] env) (fun r s' => match r with | .ok f => Q f s' | .error e => cameBackBy (model prog w) A env E e s') s

theorem s_for {target iter : Expr} {body : List Stmt} {pos : Pos} {Q : Flow → Shared → Prop} {s : Shared}
    (k : wpAny (model prog w) A (eval iter env) (fun x s₁ => wpAny (model prog w) A (pyIter x) (ForP prog w A env target body Q E) E s₁) E s)
    (hs : ∀ x, foldedSetIterable iter env x = pure x := by intro _; rfl) : wpAny (model prog w) A (exec (.For target iter body [] pos) env) Q E s :=
  wpAny_For k hs

theorem St.dropE {I : Addr} {o : Obj} {h' : Heap} (S : St h₀ L h l ((I, o) :: M) Z) (hk : Heap.ExtBut I h h') : St h₀ L h' l M Z := by
  have S₂ := S.tail
  obtain ⟨m, Fm, hm⟩ := S₂.fr
  have hI0 := (S.N (I, o) (by simp)).2
  have nM : ∀ p ∈ M ++ Z, p.1 ≠ I := fun p hp e => by
    rcases List.mem_append.mp hp with hp | hp
    · exact (List.pairwise_cons.mp S.nd).1 p hp e.symm
    · exact S.sep _ (.head _) p hp e.symm
  refine ⟨⟨m, ⟨Fm.ns.extBut hk (Ne.symm hI0.1), fun b ob e => hk b ob (fun q => ?_) (Fm.keep b ob e), Fm.above⟩, hm⟩, fun p hp => ⟨hk _ _ (nM p hp) (S₂.N p hp).1, (S₂.N p hp).2⟩, S₂.nd, S₂.sep⟩
  have := hI0.2; rw [← q, e] at this; cases this

inductive ForI (s : Shared) (h₀ : Heap) (L I : Addr) (N : Nat) (SW : Nat → Heap → Prop) (Z : Led) (J : Nat → Loc → Led → Led → Prop) : Nat → Shared → Prop
  | mk (i : Nat) (h' : Heap) (t' : Nat) (l' : Loc) (M' Z' : Led) (o : Obj) : i ≤ N → SW i h' → Sub Z Z' → J i l' M' Z' → St h₀ L h' l' ((I, o) :: M') Z' → ForI s h₀ L I N SW Z J (N + 1 - i) (up s h' t')
theorem for_walk {target : Expr} {body : List Stmt} {Q : Flow → Shared → Prop} {I : Addr} {oI : Obj} {fp : List Addr} {N : Nat} {P : Nat → Value → Prop} {SW : Nat → Heap → Prop}
    (W : Walks prog w A I fp [I] N P SW) (J : Nat → Loc → Led → Led → Prop) (hfp : ∀ b ∈ fp, b = I ∨ (∃ o, (b, o) ∈ Z) ∨ (∃ o, h₀.get? b = some o) ∨ ∃ o, (b, o) ∈ M ∧ ∀ i l' M' Z', J i l' M' Z' → (b, o) ∈ M') (hI : I ∈ fp) (hsw : SW 0 h) (S : St h₀ L h l ((I, oI) :: M) Z)
    (hob : ∀ i h, SW i h → ∃ o, h.get? I = some o)
    (hown : ∀ v (h' : Heap) t' i, SW i h' → ∀ (K : Unit → Shared → Prop) E', K () (up s h' t') → wpAny (model prog w) A (letOwnedTupleGo target (.ref I) v) K E' (up s h' t'))
    (j0 : J 0 l M Z)
    (turn : ∀ i v l' M' Z' h' t' o E', i < N → P i v → Sub Z Z' → J i l' M' Z' → St h₀ L h' l' ((I, o) :: M') Z' →
      wpAny (model prog w) A (assign target env v) (fun _ s₂ => wpAny (model prog w) A (execs body env) (TurnE s h₀ L (I, o) Z' (J (i + 1)) Q) E' s₂) E' (up s h' t'))
    (done : ∀ l' M' Z' h' t', Sub Z Z' → J N l' M' Z' → St h₀ L h' l' M' Z' → Q .next (up s h' t')) :
    ForP prog w A env target body Q E (.ref I) (up s h t) := by
  refine codeAny_forLoop_any (ForI s h₀ L I N SW Z J) ?_ (N + 1) (.mk 0 h t l M Z oI (Nat.zero_le _) hsw (Sub.refl _) j0 S)
  intro k s' hk₀
  cases hk₀ with | mk i h' t' l' M' Z' o hi hst hsub hj S' => ?_
  by_cases hlt : i < N
  · refine W.item i _ _ _ hlt hst fun v h₁ tk₁ hP hst₁ hk₁ => ?_
    have hk₁' : Heap.ExtBut I h' h₁ := fun b ob hb e => hk₁ b ob (by simpa using hb) e
    obtain ⟨o₁, ho₁⟩ := hob _ _ hst₁
    have S₁ : St h₀ L h₁ l' ((I, o₁) :: M') Z' := St.updE (M₁ := []) S' hk₁' ho₁
    refine hown v h₁ tk₁ (i + 1) hst₁ _ _ ?_
    refine wpAny_mono (turn i v l' M' Z' h₁ tk₁ o₁ _ hlt hP hsub hj S₁) (fun _ s₂ h₂ => wpAny_mono h₂ (fun f s₃ h₃ => ?_) fun _ _ e => e) fun _ _ e => e
    have fin : (∃ h' t' l' M' Z'', s₃ = up s h' t' ∧ Sub Z' Z'' ∧ St h₀ L h' l' ((I, o₁) :: M') Z'' ∧ J (i + 1) l' M' Z'') → ∃ m, m < N + 1 - i ∧ ForI s h₀ L I N SW Z J m s₃ := by
      rintro ⟨h₂, t₂, l₂, M₂, Z₂, rfl, hs₂, S₂, j₂⟩
      refine ⟨N + 1 - (i + 1), by (first | lia | omega), .mk (i + 1) h₂ t₂ l₂ M₂ Z₂ o₁ hlt ?_ (hsub.trans hs₂) j₂ S₂⟩
      refine W.frame _ _ _ hst₁ fun b hb ob e => ?_
      rcases hfp b hb with rfl | ⟨o', hz⟩ | ⟨o', h0⟩ | ⟨o', hm, hJ⟩
      · rw [ho₁] at e; cases e; exact S₂.getM (.head _)
      · have h1 := S₁.getZ (hsub _ hz)
        rw [h1] at e; cases e
        exact S₂.getZ (hs₂ _ (hsub _ hz))
      · have h1 := S₁.stays _ _ h0
        rw [h1] at e; cases e
        exact S₂.stays _ _ h0
      · have h1 := S₁.getM (.tail _ (hJ _ _ _ _ hj))
        rw [h1] at e; cases e
        exact S₂.getM (.tail _ (hJ _ _ _ _ j₂))
    cases f with
    | next => exact fin h₃
    | cont => exact fin h₃
    | brk => exact h₃.elim
    | ret v => exact h₃
  · have hin : i = N := by (first | lia | omega)
    subst hin
    refine W.done _ _ _ hst fun h₁ tk₁ hk₁ => wpAny_execs_nil ?_
    have hk₁' : Heap.ExtBut I h' h₁ := fun b ob hb e => hk₁ b ob (by simpa using hb) e
    exact done l' M' Z' h₁ tk₁ hsub hj (S'.dropE hk₁')
end
end Mine
end
section
open PySem PySem.W PySem.Calls PyProof.Rows
namespace Mine
section
variable {w : World} {A : Around} {E : Value → Shared → Prop} {s : Shared} {h₀ h : Heap} {t : Nat} {L : Addr} {l : Loc} {M M₁ M₂ Z : Led} {env : Env}
  {tp : Program} {loose : List Str} {mean : ExcName → Option Value} {mg mb : Str → Option Value} {prog : Program} {a : Addr} {n : Nat} {xs vs : List Value} {ds es : List Dat} {d e : Dat} {v y : Value}

theorem own_any {s : Shared} {target : Expr} {I : Addr} {v : Value} {o : Obj} {T : String} {K : Unit → Shared → Prop} (ho : s.heap.get? I = some o) (hc : o.cls = .type T)
    (hn : ["enumerate", "zip", "dict_itemiterator", "dict_reverseitemiterator", "odict_iterator", "itertools.zip_longest", "itertools.pairwise"].contains T = false) (k : K () s) :
    wpAny (model prog w) A (letOwnedTupleGo target (.ref I) v) K E s := by
  have fin : ∀ a : Addr, wpAny (model prog w) A (load I >>= fun o => match o.cls, o.data with
      | .type n, .fields vs =>
        if ["enumerate", "zip", "dict_itemiterator", "dict_reverseitemiterator", "odict_iterator", "itertools.zip_longest", "itertools.pairwise"].contains n && vs[0]? == some (rawInt a) then
          (rule "for.unpacks-the-owned-tuple" >>= fun _ => updateField I 0 .none)
        else pure ()
      | _, _ => pure ()) K E s := by
    intro a
    refine wpAny_bind (wpAny_load ho ?_)
    obtain ⟨c, dd, dt, sl⟩ := o
    dsimp only at hc
    subst hc
    cases dt <;> first | exact wpAny_pure k | (dsimp only; rw [hn, Bool.false_and]; exact wpAny_pure k)
  cases target with
  | Tuple es c p => cases v with
    | ref a => exact fin a
    | _ => exact wpAny_pure k
  | List es p => cases v with
    | ref a => exact fin a
    | _ => exact wpAny_pure k
  | _ => exact wpAny_pure k

theorem for_list {target : Expr} {body : List Stmt} {Q : Flow → Shared → Prop} (S : St h₀ L h l M Z) (hh : A.handled = none) (hv : DatIn Z v (.list ds))
    (J : Nat → Loc → Led → Led → Prop) (j0 : J 0 l M Z)
    (turn : ∀ i x l' M' Z' h' t' I o E', (hi : i < ds.length) → DatIn Z' x ds[i] → Sub Z Z' → J i l' M' Z' → St h₀ L h' l' ((I, o) :: M') Z' → ∀ K : Flow → Shared → Prop, (∀ f s', TurnE s h₀ L (I, o) Z' (J (i + 1)) Q f s' → K f s') →
      wpAny (model prog w) A (assign target env x) (fun _ s₂ => wpAny (model prog w) A (execs body env) K E' s₂) E' (up s h' t'))
    (done : ∀ l' M' Z' h' t', Sub Z Z' → J ds.length l' M' Z' → St h₀ L h' l' M' Z' → Q .next (up s h' t')) :
    wpAny (model prog w) A (pyIter v) (ForP prog w A env target body Q E) E (up s h t) := by
  obtain ⟨ax, vs, n, rfl, hm, hd⟩ := d_list hv
  have hl : h.IsList ax vs.toArray := ⟨_, S.getZ hm, rfl, n, rfl⟩
  refine wpAny_pyIter_list hl ?_
  have hlt := Heap.lt_size (S.getZ hm)
  have W := Walks.list (prog := prog) (w := w) hh h.objs.size ax (Nat.ne_of_lt hlt) vs.toArray
  have hlen : vs.toArray.size = ds.length := by simp [hd.length]
  rw [hlen] at W
  refine for_walk (s := s) (t := t) W J (fun b hb => ?_) (by simp) ?_ (S.push _) (fun i h ⟨⟨o, ho, _⟩, _⟩ => ⟨o, ho⟩) (fun v h' t' i ⟨⟨o, ho, hc, _⟩, _⟩ K E' k => own_any ho hc (by decide) k) j0 ?_ done
  · rcases List.mem_cons.mp hb with rfl | hb
    · exact .inl rfl
    · exact .inr (.inl ⟨_, (List.mem_singleton.mp hb) ▸ hm⟩)
  · exact ⟨⟨_, Heap.get?_push_size _ rfl, rfl, rfl⟩, hl.at fun o e => Heap.get?_push_of_some _ e⟩
  · intro i x l' M' Z' h' t' o E' hi hP hs hj S'
    obtain ⟨hvi, hx⟩ := d_get hd hi
    have : x = vs[i] := by
      have hP' : vs[i]? = some x := by simpa using hP
      rw [List.getElem?_eq_getElem hvi] at hP'
      exact (Option.some.inj hP').symm
    subst this
    exact turn i _ l' M' Z' h' t' _ o E' hi (hx.mono hs) hs hj S' _ fun _ _ q => q

/-- over a list of the mutable ledger that no turn changes -/
theorem for_listM {target : Expr} {body : List Stmt} {Q : Flow → Shared → Prop} {xs : List Value} (S : St h₀ L h l M Z) (hh : A.handled = none) (hm : (a, lO xs n) ∈ M) (hd : DatAll Z xs ds)
    (J : Nat → Loc → Led → Led → Prop) (hJ : ∀ i l' M' Z', J i l' M' Z' → (a, lO xs n) ∈ M') (j0 : J 0 l M Z)
    (turn : ∀ i x l' M' Z' h' t' I o E', (hi : i < ds.length) → DatIn Z' x ds[i] → Sub Z Z' → J i l' M' Z' → St h₀ L h' l' ((I, o) :: M') Z' → ∀ K : Flow → Shared → Prop, (∀ f s', TurnE s h₀ L (I, o) Z' (J (i + 1)) Q f s' → K f s') →
      wpAny (model prog w) A (assign target env x) (fun _ s₂ => wpAny (model prog w) A (execs body env) K E' s₂) E' (up s h' t'))
    (done : ∀ l' M' Z' h' t', Sub Z Z' → J ds.length l' M' Z' → St h₀ L h' l' M' Z' → Q .next (up s h' t')) :
    wpAny (model prog w) A (pyIter (.ref a)) (ForP prog w A env target body Q E) E (up s h t) := by
  have hl : h.IsList a xs.toArray := ⟨_, S.getM hm, rfl, n, rfl⟩
  refine wpAny_pyIter_list hl ?_
  have hlt := Heap.lt_size (S.getM hm)
  have W := Walks.list (prog := prog) (w := w) hh h.objs.size a (Nat.ne_of_lt hlt) xs.toArray
  have hlen : xs.toArray.size = ds.length := by simp [hd.length]
  rw [hlen] at W
  refine for_walk (s := s) (t := t) W J (fun b hb => ?_) (by simp) ?_ (S.push _) (fun i h ⟨⟨o, ho, _⟩, _⟩ => ⟨o, ho⟩) (fun v h' t' i ⟨⟨o, ho, hc, _⟩, _⟩ K E' k => own_any ho hc (by decide) k) j0 ?_ done
  · rcases List.mem_cons.mp hb with rfl | hb
    · exact .inl rfl
    · exact .inr (.inr (.inr ⟨_, (List.mem_singleton.mp hb) ▸ hm, (List.mem_singleton.mp hb) ▸ hJ⟩))
  · exact ⟨⟨_, Heap.get?_push_size _ rfl, rfl, rfl⟩, hl.at fun o e => Heap.get?_push_of_some _ e⟩
  · intro i x l' M' Z' h' t' o E' hi hP hs hj S'
    obtain ⟨hvi, hx⟩ := d_get hd hi
    have : x = xs[i] := by
      have hP' : xs[i]? = some x := by simpa using hP
      rw [List.getElem?_eq_getElem hvi] at hP'
      exact (Option.some.inj hP').symm
    subst this
    exact turn i _ l' M' Z' h' t' _ o E' hi (hx.mono hs) hs hj S' _ fun _ _ q => q

noncomputable abbrev rngO (n : Int) (t u v : Tok) : Obj := { cls := .type "range", data := .fields #[.int 0 t, .int n u, .int 1 v] }
theorem r_range {m : Int} {u : Tok} {Q : Value → Shared → Prop} (S : St h₀ L h l M Z) (k : ∀ h' t' a t₁ u₁ v₁ Z', St h₀ L h' l M Z' → Sub Z Z' → (a, rngO m t₁ u₁ v₁) ∈ Z' → Q (.ref a) (up s h' t')) :
    wpAny (model prog w) A (call (.type "range") [.int m u]) Q E (up s h t) :=
  call_range_1 (k _ _ _ _ _ _ _ (S.pushZ _) (Sub.cons _ _) (.head _))

theorem small_ok {m : Nat} (hm : m ≤ 1000000) : Builtin.Range.small 0 (m : Int) 1 = true ∧ Builtin.Range.rangeSize 0 (m : Int) 1 = m := by
  have e : Builtin.Range.rangeSize 0 (m : Int) 1 = m := by
    unfold Builtin.Range.rangeSize
    rw [if_pos (by decide)]
    split
    · rw [Int.ediv_one]; (first | lia | omega)
    · first | lia | omega
  refine ⟨?_, e⟩
  unfold Builtin.Range.small Builtin.Range.rangeFitsLong
  rw [e]
  simp
  first | lia | omega
theorem for_range {target : Expr} {body : List Stmt} {Q : Flow → Shared → Prop} {m : Nat} {t₁ u₁ v₁ : Tok} (S : St h₀ L h l M Z) (hh : A.handled = none) (hm : (a, rngO (m : Int) t₁ u₁ v₁) ∈ Z) (hz : m ≤ 1000000)
    (J : Nat → Loc → Led → Led → Prop) (j0 : J 0 l M Z)
    (turn : ∀ i u l' M' Z' h' t' I o E', i < m → Sub Z Z' → J i l' M' Z' → St h₀ L h' l' ((I, o) :: M') Z' → ∀ K : Flow → Shared → Prop, (∀ f s', TurnE s h₀ L (I, o) Z' (J (i + 1)) Q f s' → K f s') →
      wpAny (model prog w) A (assign target env (.int (i : Int) u)) (fun _ s₂ => wpAny (model prog w) A (execs body env) K E' s₂) E' (up s h' t'))
    (done : ∀ l' M' Z' h' t', Sub Z Z' → J m l' M' Z' → St h₀ L h' l' M' Z' → Q .next (up s h' t')) :
    wpAny (model prog w) A (pyIter (.ref a)) (ForP prog w A env target body Q E) E (up s h t) := by
  obtain ⟨sm, sz⟩ := small_ok hz
  refine wpAny_pyIter_range (S.getZ hm) sm ?_
  have W := Walks.range (prog := prog) (w := w) hh h.objs.size 0 1 m
  refine for_walk (s := s) (t := t) W J (fun b hb => .inl (List.mem_singleton.mp hb)) (by simp) ?_ (S.push _) (fun i h ho => ⟨_, ho⟩) (fun v h' t' i ho K E' k => own_any ho rfl (by decide) k) j0 ?_ done
  · show IsRangeIter _ _ _ _ _
    rw [sz]; simpa using Heap.get?_push_size _ rfl
  · intro i x l' M' Z' h' t' o E' hi hP hs hj S'
    obtain ⟨tk, rfl⟩ := hP
    have : (0 + (i : Int) * 1) = (i : Int) := by (first | lia | omega)
    rw [this]
    exact turn i tk l' M' Z' h' t' _ o E' hi hs hj S' _ fun _ _ q => q

theorem as_name {x : Str} {p : Pos} {Q : Unit → Shared → Prop} (S : St h₀ L h l M Z) (k : ∀ h' t', St h₀ L h' ((x, v) :: l) M Z → Q () (up s h' t'))
    (hL : env.locals = L := by rfl) (hk : env.scope.kind = .function := by rfl) (hx : env.kindOf x = some .local := by rfl) :
    wpAny (model prog w) A (assign (.Name x p) env v) Q E (up s h t) := wpAny_assign_Name (n_store S k hL hk hx)

theorem as_pair {x y : Str} {p q tp : Pos} {kk} {Q : Unit → Shared → Prop} (hh : A.handled = none) (S : St h₀ L h l M Z) (hv : DatIn Z v (.tuple [d, e]))
    (k : ∀ h' t' v₁ v₂, DatIn Z v₁ d → DatIn Z v₂ e → St h₀ L h' ((y, v₂) :: (x, v₁) :: l) M Z → Q () (up s h' t'))
    (hL : env.locals = L := by rfl) (hk : env.scope.kind = .function := by rfl) (hx : env.kindOf x = some .local := by rfl) (hy : env.kindOf y = some .local := by rfl) :
    wpAny (model prog w) A (assign (.Tuple [.Name x p, .Name y q] kk tp) env v) Q E (up s h t) := by
  obtain ⟨a, vs, n, rfl, hm, hd⟩ := d_tup hv
  obtain ⟨v₁, v₂, rfl, d1, d2⟩ : ∃ v₁ v₂, vs = [v₁, v₂] ∧ DatIn Z v₁ d ∧ DatIn Z v₂ e := by
    cases hd with
    | cons h1 r => cases r with
      | cons h2 r => cases r; exact ⟨_, _, rfl, h1, h2⟩
  refine assign_Tuple_tuple (items := [v₁, v₂].toArray) hh ⟨_, S.getZ hm, rfl, n, rfl⟩ rfl rfl fun h' hk' => ?_
  have S' : St h₀ L h' l M Z := S.keep fun b o e => hk' b o (Nat.ne_of_lt (Heap.lt_size e)) e
  refine assignInOrder_cons (wpAny_assign_Name (n_store S' (fun h₂ t₂ S₂ => ?_) hL hk hx))
  refine assignInOrder_cons (wpAny_assign_Name (n_store S₂ (fun h₃ t₃ S₃ => ?_) hL hk hy))
  exact assignInOrder_nil (k h₃ t₃ v₁ v₂ d1 d2 S₃)
end
end Mine
end
section
open PySem PySem.W PySem.Calls PyProof.Rows
namespace Mine
section
variable {w : World} {A : Around} {E : Value → Shared → Prop} {s : Shared} {h₀ h : Heap} {t : Nat} {L : Addr} {l : Loc} {M M₁ M₂ Z : Led} {env : Env}
  {tp : Program} {loose : List Str} {mean : ExcName → Option Value} {mg mb : Str → Option Value} {prog : Program} {a : Addr} {n : Nat} {xs vs : List Value} {ds es : List Dat} {d e : Dat} {v y : Value}

noncomputable def CompP (prog : Program) (w : World) (A : Around) (env : Env) (e : Expr) (scope : Scope) (cl : List (Str × Addr)) (use : Option (Value → Sem Unit)) (Q : Value → Shared → Prop) (E : Value → Shared → Prop) (it : Value) (s : Shared) : Prop :=
  wpAny (model prog w) A (newList []) (fun acc s₃ => wpAny (model prog w) A (newFunctionEnv scope env.globals cl [] env.qual none .none (some env)) (fun cenv s₄ =>
    codeAny (model prog w) A (.compStart e 0 it acc { cenv with scope := relabel scope env }) (compPost (model prog w) A E use Q acc cenv.locals) s₄) E s₃) E s

theorem e_comp {elt target iter : Expr} {ifs : List Expr} {gs : List Comprehension} {scope : Scope} {cl : List (Str × Addr)} {pos : Pos} {Q : Value → Shared → Prop} {s : Shared}
    (hclos : closureFor scope env = pure cl) (hkind : scope.kind = .function) (hnames : (scope.names.all fun y => y.2 != .local || scope.names.lookup y.1 == some .local) = true) (hs : ∀ x, foldedSetIterable iter env x = pure x)
    (k : wpAny (model prog w) A (eval iter env) (fun x s₁ => wpAny (model prog w) A (pyIter x) (CompP prog w A env (.ListComp elt (⟨target, iter, ifs, 0⟩ :: gs) scope pos) scope cl none Q E) E s₁) E s) :
    wpAny (model prog w) A (eval (.ListComp elt (⟨target, iter, ifs, 0⟩ :: gs) scope pos) env) Q E s := by
  rw [eval_ListComp]
  refine wpAny_comprehension_free (use := none) rfl hs hclos hkind (fun y hy e => ?_) k
  have := List.all_eq_true.mp hnames y hy
  rw [e] at this; simpa using this

theorem s_comp {elt target iter : Expr} {ifs : List Expr} {gs : List Comprehension} {scope : Scope} {cl : List (Str × Addr)} {pos : Pos} {x : Str} {px pos' : Pos} {Q : Flow → Shared → Prop} {s : Shared}
    (hsw : swapsWith (.ListComp elt (⟨target, iter, ifs, 0⟩ :: gs) scope pos) (some (.Name x px)) pos'.line env = pure true)
    (hclos : closureFor scope env = pure cl) (hkind : scope.kind = .function) (hnames : (scope.names.all fun y => y.2 != .local || scope.names.lookup y.1 == some .local) = true) (hs : ∀ x, foldedSetIterable iter env x = pure x)
    (k : wpAny (model prog w) A (eval iter env) (fun v s₁ => wpAny (model prog w) A (pyIter v) (CompP prog w A env (.ListComp elt (⟨target, iter, ifs, 0⟩ :: gs) scope pos) scope cl (some (assign (.Name x px) env)) (fun _ s' => Q .next s') E) E s₁) E s) :
    wpAny (model prog w) A (exec (.Assign [.Name x px] (.ListComp elt (⟨target, iter, ifs, 0⟩ :: gs) scope pos) pos') env) Q E s := by
  rw [exec_Assign_Name_used _ _ _ _ hsw]
  refine wpAny_bind (wpAny_standAt (wpAny_bind ?_))
  show wpAny _ A (do let _ ← comprehension (.ListComp elt (⟨target, iter, ifs, 0⟩ :: gs) scope pos) scope env _ (newList []) false (eval iter env) (some (assign (.Name x px) env))) _ _ s
  refine wpAny_bind (wpAny_mono (wpAny_comprehension_free (use := some (assign (.Name x px) env)) (Q := fun _ s' => Q .next s') rfl hs hclos hkind (fun y hy e => ?_) k) (fun _ s' hq => wpAny_pure (wpAny_pure hq)) fun _ _ e => e)
  have := List.all_eq_true.mp hnames y hy
  rw [e] at this; simpa using this

/-- the end of a comprehension's turn: the items so far -/
noncomputable def CompE (s : Shared) (g : Heap) (C D : Addr) (it : Addr × Obj) (Z₀ : Led) (J : List Value → Led → Led → Prop) (kD : Nat) (acc acc' : List Value) (s' : Shared) : Prop :=
  ∃ h' t' l' M' Z', s' = up s h' t' ∧ Sub Z₀ Z' ∧ St g C h' l' ((D, lO acc kD) :: it :: M') Z' ∧ J acc' M' Z'
theorem CompE.mk {g h' : Heap} {C D : Addr} {it : Addr × Obj} {Z₀ Z' M' : Led} {J : List Value → Led → Led → Prop} {kD : Nat} {acc acc' : List Value} {l' : Loc} {t' : Nat}
    (hs : Sub Z₀ Z') (S : St g C h' l' ((D, lO acc kD) :: it :: M') Z') (j : J acc' M' Z') : CompE s g C D it Z₀ J kD acc acc' (up s h' t') := ⟨h', t', l', M', Z', rfl, hs, S, j⟩

/-- what is wanted behind a comprehension -/
noncomputable def CDone (prog : Program) (w : World) (A : Around) (E : Value → Shared → Prop) (s : Shared) (h₀ : Heap) (L : Addr) (l : Loc) (use : Option (Value → Sem Unit)) (Q : Value → Shared → Prop) (c d : Addr × Obj) (M Z : Led) (h : Heap) (t : Nat) : Prop :=
  match use with
  | none => ∀ h', St h₀ L h' l (d :: M) Z → Q (.ref d.1) (up s h' t)
  | some u => St h₀ L h l (c :: d :: M) Z → wpAny (model prog w) A (u (.ref d.1)) (fun _ s' => ∃ h' t' l' M' Z', s' = up s h' t' ∧ St h₀ L h' l' (c :: M') Z' ∧ ∀ h'', St h₀ L h'' l' M' Z' → Q .none (up s h'' t')) E (up s h t)

theorem comp_end {use : Option (Value → Sem Unit)} {Q : Value → Shared → Prop} {g : Heap} {C D : Addr} {acc : List Value} {kD : Nat} {M' Z' : Led} {l' : Loc} {h₃ : Heap} {t₃ : Nat}
    (back : ∀ h' M' Z', (∀ b o, g.get? b = some o → h'.get? b = some o) → (∀ p ∈ M' ++ Z', h'.get? p.1 = some p.2 ∧ g.get? p.1 = none) → M'.Pairwise (fun p q => p.1 ≠ q.1) → (∀ p ∈ M', ∀ q ∈ Z', p.1 ≠ q.1) → St h₀ L h' l M' Z')
    (gC : g.get? C = none) (S : St g C h₃ l' ((D, lO acc kD) :: M') Z') (done : ∀ oC, CDone prog w A E s h₀ L l use Q (C, oC) (D, lO acc kD) M' Z' h₃ t₃) :
    compPost (model prog w) A E use Q (.ref D) C (.ok .next) (up s h₃ t₃) := by
  obtain ⟨m, Fm, _⟩ := S.fr
  obtain ⟨oC, es, ep, hoC, hoC'⟩ := id Fm.ns
  have off : ∀ p ∈ ((D, lO acc kD) :: M') ++ Z', C ≠ p.1 := fun p hp e => (S.N p hp).2.1 e.symm
  have Sb : St h₀ L h₃ l ((C, oC) :: (D, lO acc kD) :: M') Z' := by
    refine back h₃ _ _ S.stays' (fun p hp => ?_) (List.pairwise_cons.mpr ⟨fun p hp => off p (List.mem_append.mpr (.inl hp)), S.nd⟩) (fun p hp q hq => ?_)
    · rcases List.mem_cons.mp hp with rfl | hp
      · exact ⟨hoC, gC⟩
      · exact ⟨(S.N p hp).1, (S.N p hp).2.2⟩
    · rcases List.mem_cons.mp hp with rfl | hp
      · exact off q (List.mem_append.mpr (.inr hq))
      · exact S.sep p hp q hq
  cases use with
  | none => exact ⟨m, Fm.ns, fun h4 hs4 => done oC h4 (Sb.dropE hs4.extBut)⟩
  | some u =>
    refine wpAny_mono (done oC Sb) (fun _ s'' q => ?_) fun _ _ e => e
    obtain ⟨h5, t5, l5, M5, Z5, rfl, S5, k5⟩ := q
    exact ⟨m, ⟨oC, es, ep, S5.getM (.head _), hoC'⟩, fun h6 hs6 => k5 h6 (S5.dropE hs6.extBut)⟩
inductive CompI (s : Shared) (g : Heap) (C D I : Addr) (N : Nat) (SW : Nat → Heap → Prop) (Z : Led) (J : Nat → List Value → Led → Led → Prop) : Nat → Shared → Prop
  | mk (i : Nat) (h' : Heap) (t' : Nat) (l' : Loc) (acc : List Value) (kD : Nat) (M' Z' : Led) (o : Obj) : i ≤ N → SW i h' → Sub Z Z' → J i acc M' Z' → acc.length ≤ i → St g C h' l' ((D, lO acc kD) :: (I, o) :: M') Z' → CompI s g C D I N SW Z J (N + 1 - i) (up s h' t')
theorem comp_walk {elt target iter : Expr} {ifs : List Expr} {scope : Scope} {pos : Pos} {cl : List (Str × Addr)} {use : Option (Value → Sem Unit)} {Q : Value → Shared → Prop} {I : Addr} {oI : Obj} {fp : List Addr} {N : Nat} {P : Nat → Value → Prop} {SW : Nat → Heap → Prop}
    (W : Walks prog w A I fp [I] N P SW) (hfp : ∀ b ∈ fp, b = I ∨ (∃ o, (b, o) ∈ Z) ∨ ∃ o, h₀.get? b = some o) (hI : I ∈ fp) (hN : N ≤ 1000) (hsw : SW 0 h) (S : St h₀ L h l ((I, oI) :: M) Z)
    (hob : ∀ i h, SW i h → ∃ o, h.get? I = some o)
    (hcell : (scope.names.all fun y => y.2 != .cell) = true) (hkind : scope.kind = .function) (ht : ∀ v, letOwnedTupleGo target (.ref I) v = pure ())
    (J : Nat → List Value → Led → Led → Prop) (j0 : J 0 [] M Z)
    (turn : ∀ g C D i v acc kD l' M' Z' h' t' o E', h₀.StaysIn g → i < N → P i v → Sub Z Z' → J i acc M' Z' → acc.length ≤ i → St g C h' l' ((D, lO acc kD) :: (I, o) :: M') Z' →
      wpAny (model prog w) A (assign target (compEnvC scope cl C env) v) (fun _ s₂ =>
        wpAny (model prog w) A (forIn ifs true fun c r => if r = true then do let ok ← isTrue c (compEnvC scope cl C env) (eval c (compEnvC scope cl C env)); pure (ForInStep.yield ok) else pure (ForInStep.yield r)) (fun ok s₃ =>
          if ok = true then wpAny (model prog w) A (eval elt (compEnvC scope cl C env)) (fun x s₄ => CompE s g C D (I, o) Z' (J (i + 1)) kD acc (acc ++ [x]) s₄) E' s₃
          else CompE s g C D (I, o) Z' (J (i + 1)) kD acc acc s₃) E' s₂) E' (up s h' t'))
    (done : ∀ C oC D acc kD M' Z' h' t', Sub Z Z' → J N acc M' Z' → acc.length ≤ N → 
      CDone prog w A E s h₀ L l use Q (C, oC) (D, lO acc kD) M' Z' h' t') :
    CompP prog w A env (.ListComp elt [⟨target, iter, ifs, 0⟩] scope pos) scope cl use Q E (.ref I) (up s h t) := by
  unfold CompP
  refine r_list S (by simp) fun h₁ D S₁ => ?_
  obtain ⟨g, st, hsz, hgh, hn, hgL, back⟩ := S₁.ground
  refine wpAny_newFunctionEnv (fun x hx => by have := List.all_eq_true.mp hcell x hx; simpa using this) (by intro y hy; simp at hy) (fun h₂ hns hsb => ?_) hkind
  dsimp only at hns hsb ⊢
  generalize hC : h₁.objs.size = C at hns hsb ⊢
  have old : ∀ b o, h₁.get? b = some o → h₂.get? b = some o := fun b o e => hsb.extBut b o (hC ▸ Nat.ne_of_lt (Heap.lt_size e)) (Heap.get?_push_of_some _ e)
  have S₂ : St g C h₂ [] ((D, lO [] 0) :: (I, oI) :: M) Z := S₁.newFrame hsz hgh hn hns (Nat.le_of_eq hC) old fun x v e => by cases e
  have hsw₂ : SW 0 h₂ := by
    refine W.frame _ _ _ hsw fun b hb ob e => ?_
    rcases hfp b hb with rfl | ⟨o', hz⟩ | ⟨o', h0⟩
    · rw [S.getM (.head _)] at e; cases e; exact S₂.getM (.tail _ (.head _))
    · rw [S.getZ hz] at e; cases e; exact S₂.getZ hz
    · rw [S.stays _ _ h0] at e; cases e; exact old _ _ (S₁.stays _ _ h0)
  have gC : g.get? C = none := by
    cases q : g.get? C with
    | none => rfl
    | some o => exact absurd (Heap.lt_size q) (by rw [hsz, hC]; exact Nat.lt_irrefl _)
  have loop : ∀ s₃ : Shared, s₃ = up s h₂ (t + ([] : List (Str × Value)).length) →
      codeAny (model prog w) A (.compLoop (.ListComp elt [⟨target, iter, ifs, 0⟩] scope pos) 0 (.ref I) (.ref D) (compEnvC scope cl C env)) (compPost (model prog w) A E use Q (.ref D) C) s₃ := by
    rintro s₃ rfl
    refine codeAny_compLoop_tests (CompI s g C D I N SW Z J) ?_ (N + 1)
      (.mk 0 h₂ _ [] [] 0 M Z oI (Nat.zero_le _) hsw₂ (Sub.refl _) j0 (Nat.le_refl _) S₂) ht
    intro k s' hk₀
    cases hk₀ with | mk i h' t' l' acc kD M' Z' o hi hst hsub hj hacc S' => ?_
    by_cases hlt : i < N
    · refine W.item i _ _ _ hlt hst fun v h₃ tk₃ hP hst₃ hk₃ => ?_
      have hk₃' : Heap.ExtBut I h' h₃ := fun b ob hb e => hk₃ b ob (by simpa using hb) e
      obtain ⟨o₃, ho₃⟩ := hob _ _ hst₃
      have S₃ : St g C h₃ l' ((D, lO acc kD) :: (I, o₃) :: M') Z' := St.updE (M₁ := [(D, lO acc kD)]) S' hk₃' ho₃
      have fr : ∀ {h₄ l₄ M₄ Z₄ acc₄ k₄}, Sub Z' Z₄ → St g C h₄ l₄ ((D, lO acc₄ k₄) :: (I, o₃) :: M₄) Z₄ → SW (i + 1) h₄ := by
        intro h₄ l₄ M₄ Z₄ acc₄ k₄ hs₄ S₄
        refine W.frame _ _ _ hst₃ fun b hb ob e => ?_
        rcases hfp b hb with rfl | ⟨o', hz⟩ | ⟨o', h0⟩
        · rw [ho₃] at e; cases e; exact S₄.getM (.tail _ (.head _))
        · rw [S₃.getZ (hsub _ hz)] at e; cases e; exact S₄.getZ (hs₄ _ (hsub _ hz))
        · have h1 := S₃.stays _ _ (st _ _ h0)
          rw [h1] at e; cases e
          exact S₄.stays _ _ (st _ _ h0)
      refine wpAny_mono (turn g C D i v acc kD l' M' Z' h₃ tk₃ o₃ _ st hlt hP hsub hj hacc S₃) (fun _ s₂ h₂ => wpAny_mono h₂ (fun ok s₃ h₃ => ?_) fun _ _ e => e) fun _ _ e => e
      cases ok with
      | false =>
        obtain ⟨h₄, t₄, l₄, M₄, Z₄, rfl, hs₄, S₄, j₄⟩ := h₃
        exact ⟨N + 1 - (i + 1), by (first | lia | omega), .mk (i + 1) h₄ t₄ l₄ acc kD M₄ Z₄ o₃ hlt (fr hs₄ S₄) (hsub.trans hs₄) j₄ (by (first | lia | omega)) S₄⟩
      | true =>
        refine wpAny_mono h₃ (fun x s₄ h₄ => ?_) fun _ _ e => e
        obtain ⟨h₄, t₄, l₄, M₄, Z₄, rfl, hs₄, S₄, j₄⟩ := h₄
        refine r_append (M₁ := []) S₄ (by (first | lia | omega)) fun h₅ S₅ => ?_
        exact ⟨N + 1 - (i + 1), by (first | lia | omega), .mk (i + 1) h₅ t₄ l₄ (acc ++ [x]) (kD + 1) M₄ Z₄ o₃ hlt (fr hs₄ S₅) (hsub.trans hs₄) j₄ (by simp; (first | lia | omega)) S₅⟩
    · have hin : i = N := by (first | lia | omega)
      subst hin
      refine W.done _ _ _ hst fun h₃ tk₃ hk₃ => ?_
      have hk₃' : Heap.ExtBut I h' h₃ := fun b ob hb e => hk₃ b ob (by simpa using hb) e
      exact comp_end back gC ((S'.perm (M' := (I, o) :: (D, lO acc kD) :: M') (List.Perm.swap _ _ _)).dropE hk₃') fun oC => done C oC D acc kD M' Z' h₃ tk₃ hsub hj hacc
  refine codeAny_compStart_list (loop _ rfl) ?_
  exact W.self 0 _ _ _ hsw₂ (loop _ rfl)
end
end Mine
end
section
open PySem PySem.W PySem.Calls PyProof.Rows
namespace Mine
section
variable {w : World} {A : Around} {E : Value → Shared → Prop} {s : Shared} {h₀ h : Heap} {t : Nat} {L : Addr} {l : Loc} {M M₁ M₂ Z : Led} {env : Env}
  {tp : Program} {loose : List Str} {mean : ExcName → Option Value} {mg mb : Str → Option Value} {prog : Program} {a : Addr} {n : Nat} {xs vs : List Value} {ds es : List Dat} {d e : Dat} {v y : Value}

/-- a comprehension's element, behind its tests -/
noncomputable def CElt (prog : Program) (w : World) (A : Around) (cenv : Env) (elt : Expr) (ifs : List Expr) (R : List Value → Shared → Prop) (acc : List Value) (E' : Value → Shared → Prop) (s : Shared) : Prop :=
  match ifs with
  | [] => wpAny (model prog w) A (eval elt cenv) (fun x s₄ => R (acc ++ [x]) s₄) E' s
  | [c] => wpAny (model prog w) A (isTrue c cenv (eval c cenv)) (fun ok s₃ => if ok = true then wpAny (model prog w) A (eval elt cenv) (fun x s₄ => R (acc ++ [x]) s₄) E' s₃ else R acc s₃) E' s
  | _ => False
theorem CElt.go {cenv : Env} {elt : Expr} {ifs : List Expr} {R : List Value → Shared → Prop} {acc : List Value} {E' : Value → Shared → Prop} {s : Shared} (k : CElt prog w A cenv elt ifs R acc E' s) :
    wpAny (model prog w) A (forIn ifs true fun c r => if r = true then do let ok ← isTrue c cenv (eval c cenv); pure (ForInStep.yield ok) else pure (ForInStep.yield r)) (fun ok s₃ =>
          if ok = true then wpAny (model prog w) A (eval elt cenv) (fun x s₄ => R (acc ++ [x]) s₄) E' s₃ else R acc s₃) E' s := by
  match ifs, k with
  | [], k => rw [List.forIn_nil]; refine wpAny_pure ?_; rw [if_pos rfl]; exact k
  | [c], k =>
    rw [List.forIn_cons]
    rw [if_pos rfl]
    refine wpAny_bind (wpAny_bind (wpAny_mono k (fun ok s₃ h₃ => wpAny_pure ?_) fun _ _ e => e))
    dsimp only
    rw [List.forIn_nil]
    exact wpAny_pure h₃

section
variable {elt iter : Expr} {x : Str} {px : Pos} {ifs : List Expr} {scope : Scope} {pos : Pos} {cl : List (Str × Addr)} {use : Option (Value → Sem Unit)} {Q : Value → Shared → Prop}
theorem comp_list (S : St h₀ L h l M Z) (hh : A.handled = none) (hv : DatIn Z v (.list ds)) (hN : ds.length ≤ 1000)
    (hcell : (scope.names.all fun y => y.2 != .cell) = true) (hkind : scope.kind = .function) (hx : scope.names.lookup x = some .local)
    (J : Nat → List Value → Led → Led → Prop) (j0 : J 0 [] M Z)
    (turn : ∀ g C D I i u acc kD M' Z' h' t' o E', h₀.StaysIn g → (hi : i < ds.length) → DatIn Z' u ds[i] → Sub Z Z' → J i acc M' Z' → acc.length ≤ i → St g C h' [(x, u)] ((D, lO acc kD) :: (I, o) :: M') Z' → ∀ K : List Value → Shared → Prop, (∀ acc' s', CompE s g C D (I, o) Z' (J (i + 1)) kD acc acc' s' → K acc' s') →
      CElt prog w A (compEnvC scope cl C env) elt ifs K acc E' (up s h' t'))
    (done : ∀ C oC D acc kD M' Z' h' t', Sub Z Z' → J ds.length acc M' Z' → acc.length ≤ ds.length → 
      CDone prog w A E s h₀ L l use Q (C, oC) (D, lO acc kD) M' Z' h' t') :
    wpAny (model prog w) A (pyIter v) (CompP prog w A env (.ListComp elt [⟨.Name x px, iter, ifs, 0⟩] scope pos) scope cl use Q E) E (up s h t) := by
  obtain ⟨ax, vs, n, rfl, hm, hd⟩ := d_list hv
  have hl : h.IsList ax vs.toArray := ⟨_, S.getZ hm, rfl, n, rfl⟩
  refine wpAny_pyIter_list hl ?_
  have hlt := Heap.lt_size (S.getZ hm)
  have W := Walks.list (prog := prog) (w := w) hh h.objs.size ax (Nat.ne_of_lt hlt) vs.toArray
  have hlen : vs.toArray.size = ds.length := by simp [hd.length]
  rw [hlen] at W
  refine comp_walk (s := s) (t := t) W (fun b hb => ?_) (by simp) hN ?_ (S.push _) (fun i h ⟨⟨o, ho, _⟩, _⟩ => ⟨o, ho⟩) hcell hkind (fun _ => rfl) J j0 ?_ done
  · rcases List.mem_cons.mp hb with rfl | hb
    · exact .inl rfl
    · exact .inr (.inl ⟨_, (List.mem_singleton.mp hb) ▸ hm⟩)
  · exact ⟨⟨_, Heap.get?_push_size _ rfl, rfl, rfl⟩, hl.at fun o e => Heap.get?_push_of_some _ e⟩
  · intro g C D i u acc kD l' M' Z' h' t' o E' st hi hP hs hj ha S'
    obtain ⟨hvi, hx'⟩ := d_get hd hi
    have : u = vs[i] := by
      have hP' : vs[i]? = some u := by simpa using hP
      rw [List.getElem?_eq_getElem hvi] at hP'
      exact (Option.some.inj hP').symm
    subst this
    refine as_name S' (fun h₁ t₁ S₁ => ?_) rfl (by simp [compEnvC, relabel, hkind]) (lookup_relabel_local hx)
    exact (turn g C D _ i _ acc kD M' Z' h₁ t₁ o E' st hi (hx'.mono hs) hs hj ha (S₁.loc fun p hp => by rw [List.mem_singleton.mp hp]; exact lk_here) _ fun _ _ q => q).go

theorem comp_range {m : Nat} {t₁ u₁ v₁ : Tok} (S : St h₀ L h l M Z) (hh : A.handled = none) (hm : (a, rngO (m : Int) t₁ u₁ v₁) ∈ Z) (hN : m ≤ 1000)
    (hcell : (scope.names.all fun y => y.2 != .cell) = true) (hkind : scope.kind = .function) (hx : scope.names.lookup x = some .local)
    (J : Nat → List Value → Led → Led → Prop) (j0 : J 0 [] M Z)
    (turn : ∀ g C D I i u acc kD M' Z' h' t' o E', h₀.StaysIn g → i < m → Sub Z Z' → J i acc M' Z' → acc.length ≤ i → St g C h' [(x, .int (i : Int) u)] ((D, lO acc kD) :: (I, o) :: M') Z' → ∀ K : List Value → Shared → Prop, (∀ acc' s', CompE s g C D (I, o) Z' (J (i + 1)) kD acc acc' s' → K acc' s') →
      CElt prog w A (compEnvC scope cl C env) elt ifs K acc E' (up s h' t'))
    (done : ∀ C oC D acc kD M' Z' h' t', Sub Z Z' → J m acc M' Z' → acc.length ≤ m → 
      CDone prog w A E s h₀ L l use Q (C, oC) (D, lO acc kD) M' Z' h' t') :
    wpAny (model prog w) A (pyIter (.ref a)) (CompP prog w A env (.ListComp elt [⟨.Name x px, iter, ifs, 0⟩] scope pos) scope cl use Q E) E (up s h t) := by
  obtain ⟨sm, sz⟩ := small_ok (Nat.le_trans hN (by decide))
  refine wpAny_pyIter_range (S.getZ hm) sm ?_
  have W := Walks.range (prog := prog) (w := w) hh h.objs.size 0 1 m
  refine comp_walk (s := s) (t := t) W (fun b hb => .inl (List.mem_singleton.mp hb)) (by simp) hN ?_ (S.push _) (fun i h ho => ⟨_, ho⟩) hcell hkind (fun _ => rfl) J j0 ?_ done
  · show IsRangeIter _ _ _ _ _
    rw [sz]; simpa using Heap.get?_push_size _ rfl
  · intro g C D i u acc kD l' M' Z' h' t' o E' st hi hP hs hj ha S'
    obtain ⟨tk, rfl⟩ := hP
    have : (0 + (i : Int) * 1) = (i : Int) := by omega
    rw [this]
    refine as_name S' (fun h₁ t₁ S₁ => ?_) rfl (by simp [compEnvC, relabel, hkind]) (lookup_relabel_local hx)
    exact (turn g C D _ i tk acc kD M' Z' h₁ t₁ o E' st hi hs hj ha (S₁.loc fun p hp => by rw [List.mem_singleton.mp hp]; exact lk_here) _ fun _ _ q => q).go
end

/-- a while loop by a measure -/
theorem s_while {test : Expr} {body : List Stmt} {pos : Pos} {Q : Flow → Shared → Prop} (J : Nat → Loc → Led → Led → Prop) (k₀ : Nat) (S : St h₀ L h l M Z) (j0 : J k₀ l M Z)
    (turn : ∀ k l' M' Z' h' t' E', Sub Z Z' → J k l' M' Z' → St h₀ L h' l' M' Z' → ∀ (K : Flow → Shared → Prop) (G : Shared → Prop),
      (∀ h' t' l' M' Z'' k', k' < k → Sub Z' Z'' → J k' l' M' Z'' → St h₀ L h' l' M' Z'' → K .next (up s h' t')) → (∀ h' t' l' M' Z'', Sub Z' Z'' → St h₀ L h' l' M' Z'' → Q .next (up s h' t') → G (up s h' t')) →
      wpAny (model prog w) A (isTrue test env (eval test env)) (fun b s₂ =>
        if b then wpAny (model prog w) A (execs body env) K E' s₂ else G s₂) E' (up s h' t')) :
    wpAny (model prog w) A (exec (.While test body [] pos) env) Q E (up s h t) := by
  refine wpAny_While (codeAny_whileLoop (fun k s' => ∃ h' t' l' M' Z', s' = up s h' t' ∧ Sub Z Z' ∧ J k l' M' Z' ∧ St h₀ L h' l' M' Z') ?_ k₀ ⟨h, t, l, M, Z, rfl, Sub.refl _, j0, S⟩)
  rintro k s' ⟨h', t', l', M', Z', rfl, hs, hj, S'⟩
  refine wpAny_mono (turn k l' M' Z' h' t' _ hs hj S' (fun f s₃ => match f with
      | .ret v => Q (.ret v) s₃
      | .brk => False
      | _ => ∃ k' h' t' l' M' Z'', s₃ = up s h' t' ∧ k' < k ∧ Sub Z' Z'' ∧ J k' l' M' Z'' ∧ St h₀ L h' l' M' Z'') (fun s₂ => ∃ h' t' l' M' Z'', s₂ = up s h' t' ∧ Sub Z' Z'' ∧ St h₀ L h' l' M' Z'' ∧ Q .next (up s h' t'))
    (fun h' t' l' M' Z'' k' a b c d => ⟨k', h', t', l', M', Z'', rfl, a, b, c, d⟩) (fun h' t' l' M' Z'' a b c => ⟨h', t', l', M', Z'', rfl, a, b, c⟩)) (fun b s₂ h₂ => ?_) fun _ _ e => e
  cases b with
  | false =>
    simp only [Bool.false_eq_true, if_false] at h₂ ⊢
    obtain ⟨h₃, t₃, l₃, M₃, Z₃, rfl, _, _, q⟩ := h₂
    exact wpAny_execs_nil q
  | true =>
    simp only [if_true] at h₂ ⊢
    refine wpAny_mono h₂ (fun f s₃ h₃ => ?_) fun _ _ e => e
    cases f with
    | ret v => exact h₃
    | brk => exact h₃.elim
    | next => obtain ⟨k', h₄, t₄, l₄, M₄, Z₄, rfl, hk, hs₄, j₄, S₄⟩ := h₃; exact ⟨k', hk, h₄, t₄, l₄, M₄, Z₄, rfl, hs.trans hs₄, j₄, S₄⟩
    | cont => obtain ⟨k', h₄, t₄, l₄, M₄, Z₄, rfl, hk, hs₄, j₄, S₄⟩ := h₃; exact ⟨k', hk, h₄, t₄, l₄, M₄, Z₄, rfl, hs.trans hs₄, j₄, S₄⟩
end
end Mine
end
section
open PySem PySem.W PySem.Calls PyProof.Rows
namespace Mine
section
variable {w : World} {A : Around} {E : Value → Shared → Prop} {s : Shared} {h₀ h : Heap} {t : Nat} {L : Addr} {l : Loc} {M M₁ M₂ Z W : Led} {env : Env}
  {tp : Program} {loose : List Str} {mean : ExcName → Option Value} {mg mb : Str → Option Value} {prog : Program} {a : Addr} {n : Nat} {xs vs : List Value} {ds es : List Dat} {d e : Dat} {v y : Value} {Q : Value → Shared → Prop}
  {i j : Int} {p q : Tok}

theorem i_add (k : ∀ u t', Q (.int (i + j) u) (up s h t')) : wpAny (model prog w) A (binaryOp .Add (.int i p) (.int j q)) Q E (up s h t) := PyProof.Rows.add_int (k _ _)
theorem i_iadd (k : ∀ u t', Q (.int (i + j) u) (up s h t')) : wpAny (model prog w) A (inplaceOp .Add (.int i p) (.int j q)) Q E (up s h t) := PyProof.Rows.iadd_int (k _ _)
theorem i_mod (hj : j ≠ 0) (k : ∀ u t', Q (.int (i.fmod j) u) (up s h t')) : wpAny (model prog w) A (binaryOp .Mod (.int i p) (.int j q)) Q E (up s h t) := mod_int' hj (k _ _)
theorem i_lt (k : Q (.bool (decide (i < j))) (up s h t)) : wpAny (model prog w) A (compareOp .Lt (.int i p) (.int j q)) Q E (up s h t) := PyProof.Rows.lt_int k
theorem i_gt (k : Q (.bool (decide (j < i))) (up s h t)) : wpAny (model prog w) A (compareOp .Gt (.int i p) (.int j q)) Q E (up s h t) := PyProof.Rows.gt_int k
theorem i_ge (k : Q (.bool (decide (j ≤ i))) (up s h t)) : wpAny (model prog w) A (compareOp .GtE (.int i p) (.int j q)) Q E (up s h t) := PyProof.Rows.ge_int k
theorem i_eq (k : Q (.bool (i == j)) (up s h t)) : wpAny (model prog w) A (compareOp .Eq (.int i p) (.int j q)) Q E (up s h t) := PyProof.Rows.eq_int k
theorem i_ne (k : Q (.bool (i != j)) (up s h t)) : wpAny (model prog w) A (compareOp .NotEq (.int i p) (.int j q)) Q E (up s h t) := PyProof.Rows.ne_int k
theorem i_abs (k : ∀ u t', Q (.int (if i < 0 then -i else i) u) (up s h t')) : wpAny (model prog w) A (call (.builtin "abs") [.int i p]) Q E (up s h t) := call_abs_int fun _ _ => k _ _
theorem s_eq {x z : Str} (k : Q (.bool (x == z)) (up s h t)) : wpAny (model prog w) A (compareOp .Eq (.str x p) (.str z q)) Q E (up s h t) := PyProof.Rows.eq_str k
theorem s_ne {x z : Str} (k : Q (.bool (x != z)) (up s h t)) : wpAny (model prog w) A (compareOp .NotEq (.str x p) (.str z q)) Q E (up s h t) := PyProof.Rows.ne_str k
theorem x_isnot (k : Q (.bool (!(v == .none))) (up s h t)) : wpAny (model prog w) A (compareOp .IsNot v .none) Q E (up s h t) := isnot_none_gen k
theorem b_truthy {b : Bool} {Q : Bool → Shared → Prop} (k : Q b (up s h t)) : wpAny (model prog w) A (truthy (.bool b)) Q E (up s h t) := wpAny_truthy_bool k

theorem reads_of (S : St h₀ L h l M Z) (hv : DatIn W v d) (hs : Sub W (M ++ Z)) (hk : kqdOk 8 d = true) : ∃ as, Reads h v (kqdP d) as := kqd_in S.N 8 (hv.mono hs) hk
theorem shaped_of (hk : kqdOk 8 d = true) : SeqAt.shaped (kqdP d) = true := by
  have la := kqd_lay 8 d hk
  unfold SeqAt.shaped; rw [la.1, Bool.true_and]; exact decide_eq_true (Nat.le_trans la.2 (by decide))
theorem r_eq {W₁ W₂ : Led} {m : Nat} (S : St h₀ L h l M Z) (R : Rm A m) (hv : DatIn W₁ v d) (h1 : Sub W₁ (M ++ Z)) (hy : DatIn W₂ y e) (h2 : Sub W₂ (M ++ Z)) (hd : kqdOk 8 d = true) (he : kqdOk 8 e = true)
    (k : ∀ b : Bool, (b = true ↔ d = e) → Q (.bool b) (up s h t)) : wpAny (model prog w) A (compareOp .Eq v y) Q E (up s h t) := by
  obtain ⟨as, ra⟩ := reads_of S hv h1 hd
  obtain ⟨bs, rb⟩ := reads_of S hy h2 he
  exact eq_dataH ra rb (shaped_of hd) (shaped_of he) (by have := R.hu; (first | lia | omega)) (k _ (kqd_eqv 8 d e 8 hd he))
theorem r_ne {W₁ W₂ : Led} {m : Nat} (S : St h₀ L h l M Z) (R : Rm A m) (hv : DatIn W₁ v d) (h1 : Sub W₁ (M ++ Z)) (hy : DatIn W₂ y e) (h2 : Sub W₂ (M ++ Z)) (hd : kqdOk 8 d = true) (he : kqdOk 8 e = true)
    (k : ∀ b : Bool, (b = true ↔ d ≠ e) → Q (.bool b) (up s h t)) : wpAny (model prog w) A (compareOp .NotEq v y) Q E (up s h t) := by
  obtain ⟨as, ra⟩ := reads_of S hv h1 hd
  obtain ⟨bs, rb⟩ := reads_of S hy h2 he
  refine ne_dataH ra rb (shaped_of hd) (shaped_of he) (by have := R.hu; (first | lia | omega)) (k _ ?_)
  have := kqd_eqv 8 d e 8 hd he
  rw [Bool.not_eq_true', ← Bool.not_eq_true, this]
theorem r_notIn {W₁ W₂ : Led} {m : Nat} (S : St h₀ L h l M Z) (R : Rm A m) (hv : DatIn W₁ v (.list ds)) (h1 : Sub W₁ (M ++ Z)) (hy : DatIn W₂ y d) (h2 : Sub W₂ (M ++ Z)) (hd : ∀ d ∈ ds, kqdOk 8 d = true) (he : kqdOk 8 d = true)
    (k : ∀ b : Bool, (b = true ↔ d ∉ ds) → Q (.bool b) (up s h t)) : wpAny (model prog w) A (compareOp .NotIn y v) Q E (up s h t) := by
  obtain ⟨bs, rx⟩ := reads_of S hy h2 he
  obtain ⟨as, ra⟩ := kqd_in S.N 9 (hv.mono h1) (by simpa [kqdOk] using hd)
  have l := kqd_layL hd
  have ld := kqd_lay 8 d he
  rw [kqdP] at ra
  refine SeqAt.notIn_list_reads ra rx l.1 ld.1 ?_ (k _ ?_)
  · have := Nat.min_le_right (PyData.depthAll (kqdPs ds)) (kqdP d).depth
    have := R.hu; have := ld.2; (first | lia | omega)
  · rw [Bool.not_eq_true', ← Bool.not_eq_true, kqd_any ds d hd he]

theorem subM (M Z : Led) : Sub M (M ++ Z) := fun _ h => List.mem_append.mpr (.inl h)
theorem subZ (M Z : Led) : Sub Z (M ++ Z) := fun _ h => List.mem_append.mpr (.inr h)

/-- a method of a list -/
theorem m_list {name : Str} {id : String} {pl : Sem Bool} {K : Value × List Value → Shared → Prop} {o : Obj} (ho : h.get? a = some o) (hc : o.cls = .type "list") (hd : o.dict = none) (hs : Slot "list" name id) (ty : typeOf (.builtin id) = pure (.type "method_descriptor"))
    (k : K (.builtin id, [.ref a]) (up s h t)) : wpAny (model prog w) A (getMethod (.ref a) name pl) K E (up s h t) := by
  have hT : (up s h t).TypeIs (.ref a) "list" := ⟨o, ho, hc⟩
  unfold getMethod
  refine wpAny_bind (wpAny_specialOf hT list_getattribute ?_)
  show wpAny _ A (if (Manifest.canonical "list.__getattribute__" != "object.__getattribute__") = true then _ else _) _ E _
  rw [canon_list_getattribute, if_neg Bool.false_ne_true]
  refine wpAny_bind (wpAny_specialOf hT list_getattr_none ?_)
  refine wpAny_bind (wpAny_specialOf hT hs.lookup ?_)
  refine wpAny_bind (wpAny_of_eq ty ?_)
  refine wpAny_bind (wpAny_load ho ?_)
  rw [hd]
  exact wpAny_bind (wpAny_rule (wpAny_pure k))
end
end Mine
end
section
open PySem PySem.W PySem.Calls PyProof.Rows
namespace Mine
section
variable {w : World} {A : Around} {E : Value → Shared → Prop} {s : Shared} {h₀ h : Heap} {t : Nat} {L : Addr} {l : Loc} {M M₁ M₂ Z : Led} {env : Env}
  {tp : Program} {loose : List Str} {mean : ExcName → Option Value} {mg mb : Str → Option Value} {prog : Program} {a : Addr} {n : Nat} {xs vs : List Value} {ds es : List Dat} {d e : Dat} {v y : Value} {Q : Value → Shared → Prop}

theorem arg0 {M' : Model} {pos : Pos} {K : List Value → Shared → Prop} {s : Shared} (k : K [] s) : wpAny M' A (spliced (backTo pos (starEach [] env))) K E s := args_nil k
theorem arg1 {M' : Model} {pos : Pos} {e₁ : Expr} {K : List Value → Shared → Prop} {s : Shared} (k : wpAny M' A (eval e₁ env) (fun v s₁ => K [v] s₁) E s) (h1 : starEach [e₁] env = (false, eval e₁ env) :: starEach [] env := by rfl) :
    wpAny M' A (spliced (backTo pos (starEach [e₁] env))) K E s := args_cons (wpAny_mono k (fun _ _ x => args_nil x) fun _ _ x => x) h1
theorem arg2 {M' : Model} {pos : Pos} {e₁ e₂ : Expr} {K : List Value → Shared → Prop} {s : Shared} (k : wpAny M' A (eval e₁ env) (fun v s₁ => wpAny M' A (eval e₂ env) (fun u s₂ => K [v, u] s₂) E s₁) E s)
    (h1 : starEach [e₁, e₂] env = (false, eval e₁ env) :: starEach [e₂] env := by rfl) (h2 : starEach [e₂] env = (false, eval e₂ env) :: starEach [] env := by rfl) :
    wpAny M' A (spliced (backTo pos (starEach [e₁, e₂] env))) K E s := args_cons (wpAny_mono k (fun _ _ x => arg1 x h2) fun _ _ x => x) h1
theorem arg3 {M' : Model} {pos : Pos} {e₁ e₂ e₃ : Expr} {K : List Value → Shared → Prop} {s : Shared} (k : wpAny M' A (eval e₁ env) (fun v s₁ => wpAny M' A (eval e₂ env) (fun u s₂ => wpAny M' A (eval e₃ env) (fun z s₃ => K [v, u, z] s₃) E s₂) E s₁) E s)
    (h1 : starEach [e₁, e₂, e₃] env = (false, eval e₁ env) :: starEach [e₂, e₃] env := by rfl) (h2 : starEach [e₂, e₃] env = (false, eval e₂ env) :: starEach [e₃] env := by rfl) (h3 : starEach [e₃] env = (false, eval e₃ env) :: starEach [] env := by rfl) :
    wpAny M' A (spliced (backTo pos (starEach [e₁, e₂, e₃] env))) K E s := args_cons (wpAny_mono k (fun _ _ x => arg2 x h2 h3) fun _ _ x => x) h1

theorem x_def {f : Str} {fa : Addr} {e₁ : Expr} {rest : List Expr} {p pos : Pos} (B : Base w tp loose mean mg mb h₀) (S : St h₀ L h l M Z) (hg : nsIn (KK w) mainGlobals f = some (some (.ref fa))) (hkp : keepIn (KK w) (.ref fa) = true)
    (k : wpAny (model prog w) A (spliced (backTo pos (starEach (e₁ :: rest) env))) (fun vs s₁ => (KK w).In s₁.heap ∧ wpAny (model prog w) A (call (.ref fa) vs) Q E s₁) E (up s h t))
    (hG : env.globals = mainGlobals) (hk : env.scope.kind = .function) (hx : env.kindOf f = some .globalImplicit) (hd : (f == ("__debug__" : Str)) = false := by decide +kernel)
    (he : starEach (e₁ :: rest) env = (false, eval e₁ env) :: starEach rest env := by rfl) (hp : (backTo pos (starEach rest env)).any (·.1) = false := by rfl) :
    wpAny (model prog w) A (eval (.Call (.Name f p) (e₁ :: rest) [] pos) env) Q E (up s h t) :=
  Call_ (e_glob B S hg (callWith_K B.X hkp k he hp) hG hk hx hd)
theorem x_bi {f : Str} {id : String} {e₁ : Expr} {rest : List Expr} {p pos : Pos} (B : Base w tp loose mean mg mb h₀) (S : St h₀ L h l M Z) (hg : nsIn (KK w) mainGlobals f = some none) (hb : bootBuiltins f = some (.builtin id))
    (k : wpAny (model prog w) A (spliced (backTo pos (starEach (e₁ :: rest) env))) (fun vs s₁ => wpAny (model prog w) A (call (.builtin id) vs) Q E s₁) E (up s h t))
    (hG : env.globals = mainGlobals) (hB : env.builtins = builtinsNs) (hk : env.scope.kind = .function) (hx : env.kindOf f = some .globalImplicit) (hd : (f == ("__debug__" : Str)) = false := by decide +kernel) (hn : f ≠ "__name__" := by decide +kernel)
    (he : starEach (e₁ :: rest) env = (false, eval e₁ env) :: starEach rest env := by rfl) (hp : (backTo pos (starEach rest env)).any (·.1) = false := by rfl) :
    wpAny (model prog w) A (eval (.Call (.Name f p) (e₁ :: rest) [] pos) env) Q E (up s h t) :=
  Call_ (e_bui B S hg hb (PyProof.Rows.callWith_builtin1 k he hp) hG hB hk hx hd hn)
theorem x_ty {f : Str} {T : String} {e₁ : Expr} {rest : List Expr} {p pos : Pos} (B : Base w tp loose mean mg mb h₀) (S : St h₀ L h l M Z) (hg : nsIn (KK w) mainGlobals f = some none) (hb : bootBuiltins f = some (.type T))
    (k : wpAny (model prog w) A (spliced (backTo pos (starEach (e₁ :: rest) env))) (fun vs s₁ => wpAny (model prog w) A (call (.type T) vs) Q E s₁) E (up s h t))
    (hG : env.globals = mainGlobals) (hB : env.builtins = builtinsNs) (hk : env.scope.kind = .function) (hx : env.kindOf f = some .globalImplicit) (hd : (f == ("__debug__" : Str)) = false := by decide +kernel) (hn : f ≠ "__name__" := by decide +kernel)
    (he : starEach (e₁ :: rest) env = (false, eval e₁ env) :: starEach rest env := by rfl) (hp : (backTo pos (starEach rest env)).any (·.1) = false := by rfl) :
    wpAny (model prog w) A (eval (.Call (.Name f p) (e₁ :: rest) [] pos) env) Q E (up s h t) :=
  Call_ (e_bui B S hg hb (PyProof.Rows.callWith_type1 k he hp) hG hB hk hx hd hn)
theorem Base.at (B : Base w tp loose mean mg mb h₀) (S : St h₀ L h l M Z) : (KK w).In (up s h t).heap := B.X.keeps S.stays
end

noncomputable def LkAll : Loc → Loc → Prop
  | [], _ => True
  | (x, v) :: r, l => l.lookup x = some v ∧ LkAll r l
theorem LkAll.mem {l : Loc} : ∀ {l' : Loc}, LkAll l' l → ∀ p ∈ l', l.lookup p.1 = some p.2
  | [], _, _, h => nomatch h
  | (x, v) :: r, ⟨a, b⟩, p, h => by
    rcases List.mem_cons.mp h with rfl | h
    · exact a
    · exact LkAll.mem b p h
theorem St.lc {h₀ h : Heap} {L : Addr} {l l' : Loc} {M Z : Led} (S : St h₀ L h l M Z) (hl : LkAll l' l) : St h₀ L h l' M Z := S.loc hl.mem

section
variable {w : World} {A : Around} {E : Value → Shared → Prop} {s : Shared} {h₀ h : Heap} {t : Nat} {L : Addr} {l : Loc} {M Z : Led} {prog : Program} {ds : List Dat} {d : Dat} {v : Value} {Q : Value → Shared → Prop}
theorem x_T {value slice : Expr} {i : Int} {u : Tok} (j : Nat) (hij : i = (j : Int)) (S : St h₀ L h l M Z) (hv : DatIn Z v (.tuple ds)) (hj : ds[j]? = some d) (hz : ds.length ≤ 1000)
    (k : ∀ x, DatIn Z x d → Q x (up s h t))
    (hs : ∀ a, subscripted slice false (.ref a) (.int i u) = operate [.ref a, .int i u] (getItem (.ref a) (.int i u)) := by intro _; with_unfolding_all rfl) : wpAny (model prog w) A (subscriptTail value slice v (.int i u)) Q E (up s h t) := by
  subst hij
  obtain ⟨hl, e⟩ := List.getElem?_eq_some_iff.mp hj
  exact x_getT S hv (by omega) (by omega) hz (fun x hi hx => k x (by simp only [Int.toNat_natCast] at hx; rw [e] at hx; exact hx)) hs
theorem x_L {value slice : Expr} {i : Int} {u : Tok} (j : Nat) (hij : i = (j : Int)) (S : St h₀ L h l M Z) (hv : DatIn Z v (.list ds)) (hj : ds[j]? = some d) (hz : ds.length ≤ 1000)
    (k : ∀ x, DatIn Z x d → Q x (up s h t))
    (hs : ∀ a, subscripted slice false (.ref a) (.int i u) = operate [.ref a, .int i u] (getItem (.ref a) (.int i u)) := by intro _; with_unfolding_all rfl) : wpAny (model prog w) A (subscriptTail value slice v (.int i u)) Q E (up s h t) := by
  subst hij
  obtain ⟨hl, e⟩ := List.getElem?_eq_some_iff.mp hj
  exact x_getL S hv (by omega) (by omega) hz (fun x hi hx => k x (by simp only [Int.toNat_natCast] at hx; rw [e] at hx; exact hx)) hs
end

section
variable (w : World)
theorem g_len : nsIn (KK w) mainGlobals "len" = some none := by kernel_rfl!
theorem g_range : nsIn (KK w) mainGlobals "range" = some none := by kernel_rfl!
theorem g_abs : nsIn (KK w) mainGlobals "abs" = some none := by kernel_rfl!
theorem g_tuple : nsIn (KK w) mainGlobals "tuple" = some none := by kernel_rfl!
theorem g_list : nsIn (KK w) mainGlobals "list" = some none := by kernel_rfl!
theorem g_str : nsIn (KK w) mainGlobals "str" = some none := by kernel_rfl!
theorem g_sorted : nsIn (KK w) mainGlobals "sorted" = some none := by kernel_rfl!
theorem g_sum : nsIn (KK w) mainGlobals "sum" = some none := by kernel_rfl!
theorem g_place_in : nsIn (KK w) mainGlobals "place_in" = some (some (.ref 135)) := by kernel_rfl!
theorem g_measure : nsIn (KK w) mainGlobals "measure" = some (some (.ref 142)) := by kernel_rfl!
theorem g_coins : nsIn (KK w) mainGlobals "_law_coins" = some (some (.ref 147)) := by kernel_rfl!
theorem g_coin : nsIn (KK w) mainGlobals "_law_coin" = some (some (.ref 154)) := by kernel_rfl!
theorem g_line : nsIn (KK w) mainGlobals "_law_line" = some (some (.ref 161)) := by kernel_rfl!
theorem g_spots : nsIn (KK w) mainGlobals "_law_spots" = some (some (.ref 166)) := by kernel_rfl!
theorem g_total : nsIn (KK w) mainGlobals "_law_total" = some (some (.ref 171)) := by kernel_rfl!
theorem g_before : nsIn (KK w) mainGlobals "_law_before" = some (some (.ref 178)) := by kernel_rfl!
theorem g_MT : nsIn (KK w) mainGlobals "MethodTable" = some (some (.ref 124)) := by kernel_rfl!
theorem k_135 : keepIn (KK w) (.ref 135) = true := by kernel_rfl!
theorem k_142 : keepIn (KK w) (.ref 142) = true := by kernel_rfl!
theorem k_147 : keepIn (KK w) (.ref 147) = true := by kernel_rfl!
theorem k_154 : keepIn (KK w) (.ref 154) = true := by kernel_rfl!
theorem k_161 : keepIn (KK w) (.ref 161) = true := by kernel_rfl!
theorem k_166 : keepIn (KK w) (.ref 166) = true := by kernel_rfl!
theorem k_171 : keepIn (KK w) (.ref 171) = true := by kernel_rfl!
theorem k_178 : keepIn (KK w) (.ref 178) = true := by kernel_rfl!
theorem k_124 : keepIn (KK w) (.ref 124) = true := by kernel_rfl!
end
theorem b_len : bootBuiltins "len" = some (.builtin "len") := boot_len
theorem b_range : bootBuiltins "range" = some (.type "range") := PyProof.Rows.boot_range
theorem b_abs : bootBuiltins "abs" = some (.builtin "abs") := PyProof.Rows.boot_abs
theorem b_tuple : bootBuiltins "tuple" = some (.type "tuple") := PyProof.Rows.boot_tuple
theorem b_list : bootBuiltins "list" = some (.type "list") := PyProof.Rows.boot_list
theorem b_str : bootBuiltins "str" = some (.type "str") := PyProof.Rows.boot_str
theorem b_sorted : bootBuiltins "sorted" = some (.builtin "sorted") := PyProof.Rows.boot_sorted
theorem b_sum : bootBuiltins "sum" = some (.builtin "sum") := PyProof.Rows.boot_sum

/-- the data of the law -/
noncomputable abbrev Line := List (Str × Int)
noncomputable abbrev Sig := List Str
noncomputable abbrev dPair (p : Str × Int) : Dat := .tuple [.str p.1, .int p.2]
noncomputable abbrev dLine (ln : Line) : Dat := .list (ln.map dPair)
noncomputable abbrev dLines (ls : List Line) : Dat := .list (ls.map dLine)
noncomputable abbrev dSig (sg : Sig) : Dat := .tuple (sg.map .str)
noncomputable abbrev dMeth (m : Sig × Str) : Dat := .tuple [dSig m.1, .str m.2]
noncomputable abbrev dInts (ns : List Int) : Dat := .list (ns.map .int)
noncomputable abbrev dTInts (ns : List Int) : Dat := .tuple (ns.map .int)
noncomputable abbrev dRow (r : Int × Sig × Str) : Dat := .tuple [.int r.1, dSig r.2.1, .str r.2.2]
end Mine
end
section
open PySem PySem.W PySem.Calls PyProof.Rows
namespace Mine
section
variable {h₀ h h' : Heap} {L : Addr} {l l' : Loc} {M M' M₁ M₂ Z Z' : Led} {a : Addr} {o o' : Obj} {x : Str} {v : Value}
theorem St.pushAt (S : St h₀ L h l M Z) (k : ∀ b o, h.get? b = some o → h'.get? b = some o) (ho : h'.get? h.objs.size = some o) : St h₀ L h' l ((h.objs.size, o) :: M) Z := by
  have S' := S.keep k
  have ab := S.above
  refine ⟨S'.fr, fun p hp => ?_, List.pairwise_cons.mpr ⟨fun p hp e => Nat.lt_irrefl _ (e ▸ S.lt (a := p.1) (o := p.2) (List.mem_append.mpr (.inl hp))), S.nd⟩, fun p hp q hq => ?_⟩
  · rcases List.mem_append.mp hp with hp | hp
    · rcases List.mem_cons.mp hp with rfl | hp
      · refine ⟨ho, Nat.ne_of_gt ab.2, ?_⟩
        cases q : h₀.get? h.objs.size with
        | none => rfl
        | some o => exact absurd (Heap.lt_size (S.stays _ _ q)) (Nat.lt_irrefl _)
      · exact S'.N p (List.mem_append.mpr (.inl hp))
    · exact S'.N p (List.mem_append.mpr (.inr hp))
  · rcases List.mem_cons.mp hp with rfl | hp
    · exact fun e => Nat.lt_irrefl _ (e ▸ S.lt (a := q.1) (o := q.2) (List.mem_append.mpr (.inr hq)))
    · exact S.sep p hp q hq
end
section
variable {w : World} {A : Around} {E : Value → Shared → Prop} {s : Shared} {h₀ h : Heap} {t : Nat} {L : Addr} {l : Loc} {M M₁ M₂ Z : Led} {env : Env}
  {tp : Program} {loose : List Str} {mean : ExcName → Option Value} {mg mb : Str → Option Value} {prog : Program} {a : Addr} {n : Nat} {xs vs : List Value} {ds es : List Dat} {d e : Dat} {v y : Value} {Q : Value → Shared → Prop}

theorem sz_ok {m : Nat} (hz : m ≤ 1000) : m ≤ sizeLine := Nat.le_trans hz (by rw [sizeLine_eq]; decide)
/-- tuple(list) -/
theorem r_tupM (S : St h₀ L h l M Z) (hm : (a, lO xs n) ∈ M) (hd : DatAll Z xs ds) (hz : xs.length ≤ 1000) (k : ∀ h' a Z', St h₀ L h' l M Z' → Sub Z Z' → DatIn Z' (.ref a) (.tuple ds) → Q (.ref a) (up s h' t)) :
    wpAny (model prog w) A (call (.type "tuple") [.ref a]) Q E (up s h t) := by
  refine call_tuple_list (items := xs.toArray) ⟨_, S.getM hm, rfl, n, rfl⟩ (fun h' hk => ?_) (sz_ok (by simpa using hz))
  have S' := S.keep hk
  exact k _ _ _ (S'.pushZ _) (Sub.cons _ _) (.tuple (n := 0) (.head _) (hd.mono (Sub.cons _ _)))
/-- list(tuple) -/
theorem r_listT (S : St h₀ L h l M Z) (hv : DatIn Z v (.tuple ds)) (hz : ds.length ≤ 1000) (k : ∀ h' a vs n, DatAll Z vs ds → St h₀ L h' l ((a, lO vs n) :: M) Z → Q (.ref a) (up s h' t)) :
    wpAny (model prog w) A (call (.type "list") [v]) Q E (up s h t) := by
  obtain ⟨a, vs, n, rfl, hm, hd⟩ := d_tup hv
  refine call_list_seq a (T := "tuple") (.inr rfl) (S.getZ hm) rfl rfl (fun h' c' hk ho => ?_) (sz_ok (by simpa [hd.length] using hz))
  exact k h' _ vs c' hd (S.pushAt hk ho)
theorem r_listL (S : St h₀ L h l M Z) (hv : DatIn Z v (.list ds)) (hz : ds.length ≤ 1000) (k : ∀ h' a vs n, DatAll Z vs ds → St h₀ L h' l ((a, lO vs n) :: M) Z → Q (.ref a) (up s h' t)) :
    wpAny (model prog w) A (call (.type "list") [v]) Q E (up s h t) := by
  obtain ⟨a, vs, n, rfl, hm, hd⟩ := d_list hv
  refine call_list_seq a (T := "list") (.inl rfl) (S.getZ hm) rfl rfl (fun h' c' hk ho => ?_) (sz_ok (by simpa [hd.length] using hz))
  exact k h' _ vs c' hd (S.pushAt hk ho)
theorem r_listM (S : St h₀ L h l M Z) (hm : (a, lO xs n) ∈ M) (hz : xs.length ≤ 1000) (k : ∀ h' a' n', St h₀ L h' l ((a', lO xs n') :: M) Z → Q (.ref a') (up s h' t)) :
    wpAny (model prog w) A (call (.type "list") [.ref a]) Q E (up s h t) := by
  refine call_list_seq a (T := "list") (.inl rfl) (S.getM hm) rfl rfl (fun h' c' hk ho => ?_) (sz_ok (by simpa using hz))
  exact k h' _ c' (S.pushAt hk ho)
theorem d_snoc {vs : List Value} (h : DatAll Z vs ds) (hx : DatIn Z v d) : DatAll Z (vs ++ [v]) (ds ++ [d]) := by
  induction vs generalizing ds with
  | nil => cases h; exact .cons hx .nil
  | cons u vs ih => cases h with
    | cons a r => exact .cons a (ih r)
end
end Mine
end
section
open PySem PySem.W PySem.Calls PyProof.Rows
namespace Mine
section
variable {h₀ h h' : Heap} {L : Addr} {l l' : Loc} {M M' M₁ M₂ Z Z' : Led} {a : Addr} {o o' : Obj} {x : Str} {v : Value}
theorem St.next {m : Str → Option Value} (S : St h₀ L h l M Z) (F : Fr h₀ L h' m) (hm : ∀ x v, l.lookup x = some v → m x = some v) (N : News h₀ L h' ((a, o) :: (M ++ Z))) (lt : ∀ p ∈ M ++ Z, p.1 < a) : St h₀ L h' l ((a, o) :: M) Z :=
  ⟨⟨m, F, hm⟩, N, List.pairwise_cons.mpr ⟨fun p hp => Nat.ne_of_gt (lt p (List.mem_append.mpr (.inl hp))), S.nd⟩, fun p hp q hq => by
    rcases List.mem_cons.mp hp with rfl | hp
    · exact Nat.ne_of_gt (lt q (List.mem_append.mpr (.inr hq)))
    · exact S.sep p hp q hq⟩
/-- an entry of the mutable ledger turned, whatever the road -/
theorem St.set {m : Str → Option Value} (S : St h₀ L h l (M₁ ++ (a, o) :: M₂) Z) (F : Fr h₀ L h' m) (hm : ∀ x v, l.lookup x = some v → m x = some v) (N : News h₀ L h' (M₁ ++ (a, o') :: M₂ ++ Z)) : St h₀ L h' l (M₁ ++ (a, o') :: M₂) Z := by
  have pw := List.pairwise_append.mp S.nd
  have pc := List.pairwise_cons.mp pw.2.1
  refine ⟨⟨m, F, hm⟩, N, List.pairwise_append.mpr ⟨pw.1, List.pairwise_cons.mpr ⟨pc.1, pc.2⟩, fun p hp q hq => ?_⟩, fun p hp q hq => ?_⟩
  · rcases List.mem_cons.mp hq with rfl | hq
    · exact pw.2.2 p hp (a, o) (.head _)
    · exact pw.2.2 p hp q (.tail _ hq)
  · rcases List.mem_append.mp hp with hp | hp
    · exact S.sep p (by simp [hp]) q hq
    · rcases List.mem_cons.mp hp with rfl | hp
      · exact S.sep (a, o) (by simp) q hq
      · exact S.sep p (by simp [hp]) q hq
theorem St.updF (S : St h₀ L h l (M₁ ++ (a, o) :: M₂) Z) : UpdF a o (M₁ ++ (a, o) :: M₂ ++ Z) (fun o' => M₁ ++ (a, o') :: M₂ ++ Z) := by
  have pw := List.pairwise_append.mp S.nd
  have pc := List.pairwise_cons.mp pw.2.1
  have hz : ∀ p ∈ M₂ ++ Z, p.1 ≠ a := fun p hp e => by
    rcases List.mem_append.mp hp with hp | hp
    · exact pc.1 p hp e.symm
    · exact S.sep (a, o) (by simp) p hp e.symm
  have h1 : ∀ p ∈ M₁, p.1 ≠ a := fun p hp => pw.2.2 p hp (a, o) (.head _)
  clear pw pc S
  induction M₁ with
  | nil => exact .head hz
  | cons p r ih => exact .tail (h1 p (.head _)) (ih fun q hq => h1 q (.tail _ hq))
theorem St.upd2 (S : St h₀ L h l (M₁ ++ (a, o) :: M₂) Z) : Upd a o o' (M₁ ++ (a, o) :: M₂ ++ Z) (M₁ ++ (a, o') :: M₂ ++ Z) := by
  have pw := List.pairwise_append.mp S.nd
  have pc := List.pairwise_cons.mp pw.2.1
  have hz : ∀ p ∈ M₂ ++ Z, p.1 ≠ a := fun p hp e => by
    rcases List.mem_append.mp hp with hp | hp
    · exact pc.1 p hp e.symm
    · exact S.sep (a, o) (by simp) p hp e.symm
  have h1 : ∀ p ∈ M₁, p.1 ≠ a := fun p hp => pw.2.2 p hp (a, o) (.head _)
  clear pw pc S
  induction M₁ with
  | nil => exact .head hz
  | cons p r ih => exact .tail (h1 p (.head _)) (ih fun q hq => h1 q (.tail _ hq))
end

section
variable {w : World} {A : Around} {E : Value → Shared → Prop} {s : Shared} {h₀ h : Heap} {t : Nat} {L : Addr} {l : Loc} {M M₁ M₂ Z Z' : Led} {env : Env}
  {tp : Program} {loose : List Str} {mean : ExcName → Option Value} {mg mb : Str → Option Value} {prog : Program} {a : Addr} {n : Nat} {xs vs : List Value} {ds es : List Dat} {d e : Dat} {v y : Value} {Q : Value → Shared → Prop}

theorem code_fn {f : Addr} {ps : List Str} {args : List Value} {R : Result → Shared → Prop} (l₁ : Loc) (F : FnOk w f ps) (hb : bindArgs (fdAt w f) ⟨args, []⟩ = (pure (ps.zip args) : Sem Loc)) (hl : l₁ = (ps.zip args).reverse)
    (B : Base w tp loose mean mg mb h₀) (S : St h₀ L h l M Z) (Rm' : Rm A (n + 1))
    (k : ∀ g L' h₁ t₁, Base w tp loose mean mg mb g → (∀ L'' h' l' M' Z', St g L'' h' l' M' Z' → St h₀ L h' l M' Z') → St g L' h₁ l₁ M Z → Rm (A.deeper (envAt w f L')) n →
      wpAny (model prog w) (A.deeper (envAt w f L')) (execs (bdAt w f) (envAt w f L')) (fun fl s' => R (.ok (.ret (match fl with | .ret v => v | _ => .none))) s') (fun _ _ => False) (up s h₁ t₁)) :
    codeAny (model prog w) A (.call (.ref f) ⟨args, []⟩) R (up s h t) := by
  subst hl
  obtain ⟨g, st, hsz, hgh, hn, back⟩ := S.enter
  have Xs := B.X.keeps S.stays
  refine codeAny_call_def (fd := fdAt w f) (body := bdAt w f) (binds := ps.zip args) Rm'.room (Xs _ _ F.look) rfl (B.T.nolimit.keeps S.stays) (codeRec_of Xs F.code) F.body (BindsTo.of_eq hb)
    (fun x hx => by have := List.all_eq_true.mp F.cell x hx; simpa using this)
    (fun x hx => by have := List.all_eq_true.mp F.loc x.1 (List.of_mem_zip hx).1; exact of_decide_eq_true this) (fun h₁ hns hk₁ => ?_) F.co F.gen F.kind
  have S' := S.newFrame (l' := (ps.zip args).reverse) hsz hgh hn hns (Nat.le_refl _) hk₁ fun x v e => e
  exact wpAny_mono (k g _ h₁ _ (B.keeps st) back S' Rm'.deeper) (fun fl s' q => q) fun _ _ e => e.elim

/-- an object of MethodTable, its own dict turned no more -/
noncomputable def Inst (Z : Led) (x gd : Addr) : Prop := ∃ dx hsh tk n, (x, instObj 124 dx) ∈ Z ∧ (dx, dictOf [⟨hsh, .str "generics" tk, .ref gd⟩] n) ∈ Z
theorem Inst.mono {x gd : Addr} (I : Inst Z x gd) (hs : Sub Z Z') : Inst Z' x gd := by
  obtain ⟨dx, hsh, tk, n, a, b⟩ := I; exact ⟨dx, hsh, tk, n, hs _ a, hs _ b⟩
theorem Inst.at {x gd : Addr} (I : Inst Z x gd) (S : St h₀ L h l M Z) : ∃ ox hsh tk n, InstAt h x ox 124 (some (dictOf [⟨hsh, .str "generics" tk, .ref gd⟩] n)) := by
  obtain ⟨dx, hsh, tk, n, a, b⟩ := I
  exact ⟨_, hsh, tk, n, S.getZ a, rfl, rfl, S.getZ b⟩

theorem x_attr {nm : Str} {np pos : Pos} {x gd : Addr} (B : Base w tp loose mean mg mb h₀) (S : St h₀ L h l M Z) (I : Inst Z x gd)
    (hn : ∀ (K : Value → Shared → Prop), K (.ref x) (up s h t) → wpAny (model prog w) A (eval (.Name nm np) env) K E (up s h t)) (k : ∀ t', Q (.ref gd) (up s h t')) :
    wpAny (model prog w) A (eval (.Attribute (.Name nm np) "generics" pos) env) Q E (up s h t) := by
  obtain ⟨ox, hsh, tk, n, I⟩ := I.at S
  obtain ⟨m, F, hm⟩ := S.fr
  refine Attribute_name (hn _ ?_)
  exact get_own (attr := none) (s := up s h t) F B.X I (by kernel_rfl!) (by kernel_rfl!) (by kernel_rfl!) (by kernel_rfl!) (by kernel_rfl!) (by kernel_rfl!) (k _)

theorem m_inst {x gd f : Addr} {name : Str} {pl : Sem Bool} {K : Value × List Value → Shared → Prop} (B : Base w tp loose mean mg mb h₀) (S : St h₀ L h l M Z) (I : Inst Z x gd)
    (hg : plainGet (KK w) 124 name = true) (hf : findIn (KK w) (.ref 124) name = some (some (.ref f))) (ht : isFn (KK w) (.ref f) = true) (hl : ("generics" == name : Bool) = false) (k : K (.ref f, [.ref x]) (up s h t)) :
    wpAny (model prog w) A (getMethod (.ref x) name pl) K E (up s h t) := by
  obtain ⟨ox, hsh, tk, n, I⟩ := I.at S
  obtain ⟨m, F, hm⟩ := S.fr
  refine method_inst (s := up s h t) F B.X I hg hf ht ?_ k
  unfold getL
  have e : (Value.str "generics" tk).isStr name = false := by simpa [Value.isStr] using hl
  simp [e]
  rfl

/-- the table: its generic "g" of c arguments; the methods' list stands in the mutable ledger -/
noncomputable def TabIn (w : World) (Z : Led) (x ml : Addr) (as : List Dat) : Prop := ∃ gd og tp nt al, Inst Z x gd ∧ (gd, og) ∈ Z ∧ og.IsDictOf (strKind PG w) [(("g" : Str), .ref tp)] ∧ (tp, tO [.ref al, .ref ml] nt) ∈ Z ∧ DatIn Z (.ref al) (.list as)
theorem TabIn.mono {x ml : Addr} {as : List Dat} (T : TabIn w Z x ml as) (hs : Sub Z Z') : TabIn w Z' x ml as := by
  obtain ⟨gd, og, tp, nt, al, a, b, c, d, e⟩ := T
  exact ⟨gd, og, tp, nt, al, a.mono hs, hs _ b, c, hs _ d, e.mono hs⟩
end
end Mine
end
open PySem PySem.W PySem.Calls PyProof.Rows
local macro_rules | `(tactic| walk_at "lk") => `(tactic| first | with_reducible exact Mine.lk_here | exact Mine.lk_there (by decide +kernel) (by walk_at "lk"))
local macro_rules | `(tactic| walk_at "ev") => `(tactic| kernel_rfl!)
local macro_rules | `(tactic| walk_at "nm") => `(tactic| refine Mine.e_loc (by assumption) (by walk_at "lk") ?_ (by walk_at "ev") (by walk_at "ev") (by walk_at "ev"))
local macro_rules | `(tactic| walk_at "asn") => `(tactic| (refine wpAny_Assign_Name ?_ (by walk_at "ev")))
local macro_rules | `(tactic| walk_at "lc") => `(tactic| first | exact True.intro | exact And.intro (by walk_at "lk") (by walk_at "lc"))
section
open PySem PySem.W PySem.Calls PyProof.Rows
namespace Mine
theorem datInts {Z : Led} {xs : List Value} {ns : List Int} (h : IntsAre xs ns) : DatAll Z xs (ns.map Dat.int) := by
  induction h with
  | nil => exact .nil
  | cons k t _ ih => exact .cons (.int k t) ih
theorem okInts (ns : List Int) : kqdOk 8 (.list (ns.map Dat.int)) = true := by
  simp [kqdOk]
theorem ints_snoc {xs : List Value} {ns : List Int} (h : IntsAre xs ns) (hne : ns ≠ []) : ∃ ys i u ms, xs = ys ++ [.int i u] ∧ IntsAre ys ms := by
  induction h with
  | nil => exact absurd rfl hne
  | @cons k t xs' ns' r ih =>
    cases r with
    | nil => exact ⟨[], k, t, [], rfl, .nil⟩
    | cons k' t' r' =>
      obtain ⟨ys, i, u, ms, e, hi⟩ := ih (by simp)
      exact ⟨.int k t :: ys, i, u, k :: ms, by rw [e]; rfl, .cons k t hi⟩

theorem fn_coin (w : World) : FnOk w 154 ["coins", "most"] := ⟨by kernel_rfl!, by kernel_rfl!, by kernel_rfl!, by kernel_rfl!, by kernel_rfl!, by kernel_rfl!, by kernel_rfl!, by kernel_rfl!⟩
theorem bd_coin (w : World) (a b : Value) : bindArgs (fdAt w 154) ⟨[a, b], []⟩ = (pure ((["coins", "most"] : List Str).zip [a, b]) : Sem Loc) := by kernel_rfl!


section
variable {w : World} {A : Around} {E : Value → Shared → Prop} {s : Shared} {h₀ h : Heap} {t : Nat} {L : Addr} {l : Loc} {M M₁ M₂ Z : Led} {env : Env}
  {tp : Program} {loose : List Str} {mean : ExcName → Option Value} {mg mb : Str → Option Value} {prog : Program} {a : Addr} {n : Nat} {xs vs : List Value} {ds es : List Dat} {d e : Dat} {v y : Value} {Q : Value → Shared → Prop}

theorem c_coin {c : Addr} {m : Int} {u : Tok} {ns : List Int} (B : Base w tp loose mean mg mb h₀) (S : St h₀ L h l (M₁ ++ (c, lO xs n) :: M₂) Z) (R : Rm A 3) (hi : IntsAre xs ns) (hz : xs.length ≤ 1000) (hm : 0 < m)
    (k : ∀ h' t' xs' ns' n' r u', 0 ≤ r → r < m → IntsAre xs' ns' → xs'.length ≤ 1000 → St h₀ L h' l (M₁ ++ (c, lO xs' n') :: M₂) Z → Q (.int r u') (up s h' t')) :
    wpAny (model prog w) A (call (.ref 154) [.ref c, .int m u]) Q E (up s h t) := by
  refine call_fn [("most", .int m u), ("coins", .ref c)] (fn_coin w) (bd_coin w _ _) rfl B S R fun g L' h₁ t₁ Bg back S' R' => ?_
  refine wpAny_execs_cons ?_
  with_reducible refine wpAny_If ?_
  with_reducible refine wpAny_isTrue_Compare1 ?_ (by walk_at "ev")
  with_reducible refine e_loc S' (by walk_at "lk") ?_ (by walk_at "ev") (by walk_at "ev") (by walk_at "ev")
  with_reducible refine List_ ?_
  with_reducible refine args_nil ?_
  with_reducible refine r_list S' (by decide) (fun h₂ b S₂ => ?_)
  refine r_eq (W₁ := (b, lO [] 0) :: (M₁ ++ (c, lO xs n) :: M₂)) (W₂ := (b, lO [] 0) :: (M₁ ++ (c, lO xs n) :: M₂)) (d := .list (ns.map Dat.int)) (e := .list []) S₂ R' (.list (n := n) (by simp) (datInts hi)) (subM _ _) (.list (n := 0) (.head _) .nil) (subM _ _) (okInts _) (by simp [kqdOk]) fun bb hb => ?_
  refine b_truthy ?_
  have S₃ := S₂.tail
  cases bb with
  | true =>
    rw [if_pos rfl]
    refine wpAny_execs_cons (wpAny_Return_some (e_int fun t' => ?_))
    exact k _ _ xs ns n 0 _ (Int.le_refl _) hm hi hz (back _ _ _ _ _ S₃)
  | false =>
    rw [if_neg (by decide)]
    have hne : ns ≠ [] := fun e => by simp [e] at hb
    obtain ⟨ys, i, u', ms, rfl, hi'⟩ := ints_snoc hi hne
    refine wpAny_execs_nil (wpAny_execs_cons (wpAny_Return_some (wpAny_BinOp (MethodCall_ ?_ (by rfl)))))
    refine e_loc S₃ (by walk_at "lk") ?_ (by walk_at "ev") (by walk_at "ev") (by walk_at "ev")
    refine m_list (S₃.getM (o := lO (ys ++ [.int i u']) n) (by simp)) rfl rfl F.slot_list_pop F.type_list_pop ?_
    refine callWith_method0 ?_
    refine r_pop S₃ (by have : (1000 : Nat) ≤ sizeLine := by rw [sizeLine_eq]; decide
                        simp at hz; lia) fun h₃ S₄ => ?_
    refine e_loc S₄ (by walk_at "lk") ?_ (by walk_at "ev") (by walk_at "ev") (by walk_at "ev")
    refine i_mod (by lia) fun u₅ t₅ => ?_
    exact k _ _ ys ms _ _ _ (fmod_lo _ hm) (fmod_hi _ hm) hi' (by simp at hz; exact Nat.le_succ_of_le (by assumption)) (back _ _ _ _ _ S₄)
end
end Mine
end
section
open PySem PySem.W PySem.Calls PyProof.Rows
namespace Mine
/-- place_in -/
noncomputable def placeIn (ln : Line) (x : Str) : Option Nat := ln.findIdx? fun p => p.1 == x
noncomputable def placeI (ln : Line) (x : Str) : Int := match placeIn ln x with | some i => i | none => -1

theorem fn_place (w : World) : FnOk w 135 ["rows", "name"] := ⟨by kernel_rfl!, by kernel_rfl!, by kernel_rfl!, by kernel_rfl!, by kernel_rfl!, by kernel_rfl!, by kernel_rfl!, by kernel_rfl!⟩
theorem bd_place (w : World) (a b : Value) : bindArgs (fdAt w 135) ⟨[a, b], []⟩ = (pure ((["rows", "name"] : List Str).zip [a, b]) : Sem Loc) := by kernel_rfl!


section
variable {w : World} {A : Around} {E : Value → Shared → Prop} {s : Shared} {h₀ h : Heap} {t : Nat} {L : Addr} {l : Loc} {M M₁ M₂ Z : Led} {env : Env}
  {tp : Program} {loose : List Str} {mean : ExcName → Option Value} {mg mb : Str → Option Value} {prog : Program} {a : Addr} {n : Nat} {xs vs : List Value} {ds es : List Dat} {d e : Dat} {v y : Value} {Q : Value → Shared → Prop}

theorem placeI_hit {ln : Line} {x : Str} {i : Nat} (hi : i < ln.length) (h0 : ∀ k (hk : k < ln.length), k < i → ln[k].1 ≠ x) (h : ln[i].1 = x) : placeI ln x = i := by
  unfold placeI placeIn
  have : ln.findIdx? (fun p => p.1 == x) = some i := by
    rw [List.findIdx?_eq_some_iff_getElem]
    exact ⟨hi, by simpa using h, fun j hj => by simpa using h0 j (by (first | lia | omega)) hj⟩
  rw [this]
theorem placeI_none {ln : Line} {x : Str} (h0 : ∀ k (hk : k < ln.length), ln[k].1 ≠ x) : placeI ln x = -1 := by
  unfold placeI placeIn
  have : ln.findIdx? (fun p => p.1 == x) = none := by
    rw [List.findIdx?_eq_none_iff]
    intro p hp
    obtain ⟨k, hk, rfl⟩ := List.getElem_of_mem hp
    simpa using h0 k hk
  rw [this]


theorem c_place {ln : Line} {x : Str} {u : Tok} (B : Base w tp loose mean mg mb h₀) (S : St h₀ L h l M Z) (R : Rm A 3) (hv : DatIn Z v (dLine ln)) (hz : ln.length ≤ 1000)
    (k : ∀ h' t' Z' u', Sub Z Z' → St h₀ L h' l M Z' → Q (.int (placeI ln x) u') (up s h' t')) :
    wpAny (model prog w) A (call (.ref 135) [v, .str x u]) Q E (up s h t) := by
  refine call_fn [("name", .str x u), ("rows", v)] (fn_place w) (bd_place w _ _) rfl B S R fun g L' h₁ t₁ Bg back S' R' => ?_
  have hz' : (ln.map dPair).length ≤ 1000 := by simpa using hz
  refine wpAny_execs_cons (s_for ?_ (by intro _; rfl))
  refine x_ty Bg S' (g_range w) b_range ?_ (by walk_at "ev") (by walk_at "ev") (by walk_at "ev") (by walk_at "ev")
  refine arg1 ?_
  refine x_bi Bg S' (g_len w) b_len ?_ (by walk_at "ev") (by walk_at "ev") (by walk_at "ev") (by walk_at "ev")
  refine arg1 ?_
  walk_at "nm"
  refine r_lenL S' hv hz' fun t₂ u₂ => ?_
  refine r_range S' fun h₃ t₃ ra t₄ u₄ v₄ Z₁ S₃ hs₁ hr => ?_
  refine for_range (m := (ln.map dPair).length) S₃ R'.hh hr (by (first | lia | omega))
    (fun i l' M' Z' => l' = ([("name", .str x u), ("rows", v)] : Loc) ∧ M' = M ∧ ∀ k (hk : k < ln.length), k < i → ln[k].1 ≠ x) ⟨rfl, rfl, fun k hk h => by (first | lia | omega)⟩ ?_ ?_
  · intro i u₅ l' M' Z' h' t' I o E' hi hs hJ₀ S₄ K hK
    obtain ⟨rfl, rfl, hno⟩ := hJ₀
    refine as_name S₄ (fun h₅ t₅ S₅ => ?_) (by walk_at "ev") (by walk_at "ev") (by walk_at "ev")
    refine wpAny_execs_cons (wpAny_If (wpAny_isTrue_Compare1 ?_ (by walk_at "ev")))
    refine Subscript_ (Subscript_ ?_)
    walk_at "nm"
    walk_at "nm"
    have hi' : i < ln.length := by simpa using hi
    refine x_L i rfl S₅ (hv.mono (hs₁.trans hs)) (d := dPair ln[i]) (by simp [hi']) hz' fun y hy => ?_
    refine e_int fun t₆ => ?_
    refine x_T 0 rfl S₅ hy rfl (by simp) fun z hz => ?_
    walk_at "nm"
    obtain ⟨tk, rfl⟩ := d_str hz
    refine s_eq (b_truthy ?_)
    by_cases hq : ln[i].1 = x
    · have e1 : (ln[i].1 == x) = true := by simpa using hq
      rw [e1, if_pos rfl]
      refine wpAny_execs_cons (wpAny_Return_some ?_)
      walk_at "nm"
      rw [← placeI_hit hi' hno hq]
      exact hK _ _ (k _ _ _ _ (hs₁.trans hs) (back _ _ _ _ _ S₅.tail))
    · have e1 : (ln[i].1 == x) = false := by simpa using hq
      rw [e1, if_neg (by decide)]
      refine wpAny_execs_nil (wpAny_execs_nil (hK _ _ <| TurnE.next (Sub.refl _) (S₅.lc (by walk_at "lc")) ⟨rfl, rfl, fun k hk h => ?_⟩))
      rcases Nat.lt_succ_iff_lt_or_eq.mp h with h | h
      · exact hno k hk h
      · subst h; exact hq
  · rintro l' M' Z' h' t' hs ⟨rfl, rfl, hno⟩ S₄
    refine wpAny_execs_cons (wpAny_Return_some ?_)
    refine UnaryOp_ (e_int fun t₆ => ?_)
    refine neg_int ?_
    rw [show -(1 : Int) = placeI ln x from (placeI_none fun k hk => hno k hk (by simpa using hk)).symm]
    exact k _ _ _ _ (hs₁.trans hs) (back _ _ _ _ _ S₄)
end
end Mine
end
section
open PySem PySem.W PySem.Calls PyProof.Rows
namespace Mine
/-- measure -/
noncomputable def dstI (ln : Line) (x : Str) : Int := match placeIn ln x with | some i => (ln[i]?.map (·.2)).getD 0 | none => 0
noncomputable def plc (rows : List Line) (sg : Sig) : List Int := List.zipWith placeI rows sg
noncomputable def dst (rows : List Line) (sg : Sig) : List Int := List.zipWith dstI rows sg
noncomputable def fits (rows : List Line) (sg : Sig) : Bool := (plc rows sg).all fun p => decide (0 ≤ p)
noncomputable def tot (rows : List Line) (sg : Sig) : Int := (dst rows sg).sum
noncomputable def dMeas (rows : List Line) (sg : Sig) : Dat := if fits rows sg = true then .tuple [.int (tot rows sg), dTInts (plc rows sg)] else .none

theorem placeI_some {ln : Line} {x : Str} (h : ¬ placeI ln x < 0) : ∃ (i : Nat) (hi : i < ln.length), placeI ln x = i ∧ ln[i].1 = x ∧ dstI ln x = ln[i].2 := by
  unfold placeI dstI at *
  cases q : placeIn ln x with
  | none => rw [q] at h; simp at h
  | some i =>
    obtain ⟨hi, e, _⟩ := List.findIdx?_eq_some_iff_getElem.mp q
    exact ⟨i, hi, rfl, by simpa using e, by simp [hi]⟩
theorem zip_take {α β γ : Type} (f : α → β → γ) (a : List α) (b : List β) (i : Nat) (ha : i < a.length) (hb : i < b.length) : (List.zipWith f a b).take (i + 1) = (List.zipWith f a b).take i ++ [f a[i] b[i]] := by
  have hl : i < (List.zipWith f a b).length := by simp; (first | lia | omega)
  rw [List.take_succ_eq_append_getElem hl]
  simp

theorem fn_measure (w : World) : FnOk w 142 ["signature", "rows"] := ⟨by kernel_rfl!, by kernel_rfl!, by kernel_rfl!, by kernel_rfl!, by kernel_rfl!, by kernel_rfl!, by kernel_rfl!, by kernel_rfl!⟩
theorem bd_measure (w : World) (a b : Value) : bindArgs (fdAt w 142) ⟨[a, b], []⟩ = (pure ((["signature", "rows"] : List Str).zip [a, b]) : Sem Loc) := by kernel_rfl!


section
variable {w : World} {A : Around} {E : Value → Shared → Prop} {s : Shared} {h₀ h : Heap} {t : Nat} {L : Addr} {l : Loc} {M M₁ M₂ Z : Led} {env : Env}
  {tp : Program} {loose : List Str} {mean : ExcName → Option Value} {mg mb : Str → Option Value} {prog : Program} {a : Addr} {n : Nat} {xs vs : List Value} {ds es : List Dat} {d e : Dat} {v y r : Value} {Q : Value → Shared → Prop}

theorem c_measure {rows : List Line} {sg : Sig} (B : Base w tp loose mean mg mb h₀) (S : St h₀ L h l M Z) (R : Rm A 5) (hv : DatIn Z v (dSig sg)) (hr : DatIn Z r (dLines rows)) (hl : sg.length = rows.length) (hz : rows.length ≤ 1000) (hz2 : ∀ ln ∈ rows, ln.length ≤ 1000)
    (k : ∀ h' t' Z' x, Sub Z Z' → St h₀ L h' l M Z' → DatIn Z' x (dMeas rows sg) → Q x (up s h' t')) :
    wpAny (model prog w) A (call (.ref 142) [v, r]) Q E (up s h t) := by
  refine call_fn [("rows", r), ("signature", v)] (fn_measure w) (bd_measure w _ _) rfl B S R fun g L' h₁ t₁ Bg back S' R' => ?_
  have hz' : (sg.map Dat.str).length ≤ 1000 := by simp; (first | lia | omega)
  have hz'' : (rows.map dLine).length ≤ 1000 := by simpa using hz
  refine wpAny_execs_cons ?_
  walk_at "asn"
  refine e_int fun t₂ => ?_
  refine n_store S' (fun h₃ t₃ S₃ => ?_) (by walk_at "ev") (by walk_at "ev") (by walk_at "ev")
  refine wpAny_execs_cons ?_
  walk_at "asn"
  refine List_ (args_nil ?_)
  refine r_list S₃ (by decide) (fun h₄ pa S₄ => ?_)
  refine n_store S₄ (fun h₅ t₅ S₅ => ?_) (by walk_at "ev") (by walk_at "ev") (by walk_at "ev")
  refine wpAny_execs_cons (s_for ?_ (by intro _; rfl))
  refine x_ty Bg S₅ (g_range w) b_range ?_ (by walk_at "ev") (by walk_at "ev") (by walk_at "ev") (by walk_at "ev")
  refine arg1 ?_
  refine x_bi Bg S₅ (g_len w) b_len ?_ (by walk_at "ev") (by walk_at "ev") (by walk_at "ev") (by walk_at "ev")
  refine arg1 ?_
  walk_at "nm"
  refine r_lenT S₅ hv hz' fun tq uq => ?_
  refine r_range S₅ fun h₃ t₃ ra t₄ u₄ v₄ Z₁ S₃ hs₁ hr₁ => ?_
  refine for_range (m := (sg.map Dat.str).length) (S₃.lc (l' := [("total", .int 0 t₁), ("places", .ref pa), ("rows", r), ("signature", v)]) (by walk_at "lc")) R'.hh hr₁ (by (first | lia | omega))
    (fun i l' M' Z' => ∃ T u xs n, l' = ([("total", .int T u), ("places", .ref pa), ("rows", r), ("signature", v)] : Loc) ∧ M' = (pa, lO xs n) :: M ∧ xs.length = i ∧ T = ((dst rows sg).take i).sum ∧ DatAll Z' xs (((plc rows sg).take i).map .int) ∧ ∀ p ∈ (plc rows sg).take i, 0 ≤ p) ?_ ?_ ?_
  · exact ⟨0, _, [], 0, rfl, rfl, rfl, by simp, by simpa using DatAll.nil, by simp⟩
  · intro i u₅ l' M' Z' h' t' I o E' hi hs hJ₀ S₄ K hK
    obtain ⟨T, uT, xs, n, rfl, rfl, hxl, hT, hdx, hpos⟩ := hJ₀
    have hi' : i < sg.length := by simpa using hi
    have hi2 : i < rows.length := by (first | lia | omega)
    refine as_name S₄ (fun h₅ t₅ S₅ => ?_) (by walk_at "ev") (by walk_at "ev") (by walk_at "ev")
    refine wpAny_execs_cons ?_
    walk_at "asn"
    refine x_def Bg S₅ (g_place_in w) (k_135 w) ?_ (by walk_at "ev") (by walk_at "ev") (by walk_at "ev")
    refine arg2 ?_
    refine Subscript_ ?_
    walk_at "nm"
    walk_at "nm"
    refine x_L i rfl S₅ (hr.mono (hs₁.trans hs)) (d := dLine rows[i]) (by simp [hi2]) hz'' fun y hy => ?_
    refine Subscript_ ?_
    walk_at "nm"
    walk_at "nm"
    refine x_T i rfl S₅ (hv.mono (hs₁.trans hs)) (d := .str sg[i]) (by simp [hi']) hz' fun z hz => ?_
    obtain ⟨tk, rfl⟩ := d_str hz
    refine ⟨Bg.at S₅, ?_⟩
    refine c_place Bg S₅ R'.less hy (hz2 _ (List.getElem_mem hi2)) fun h₆ t₆ Z₂ u₆ hs₂ S₆ => ?_
    refine n_store S₆ (fun h₇ t₇ S₇ => ?_) (by walk_at "ev") (by walk_at "ev") (by walk_at "ev")
    refine wpAny_execs_cons (wpAny_If (wpAny_isTrue_Compare1 ?_ (by walk_at "ev")))
    walk_at "nm"
    refine e_int fun t₈ => ?_
    refine i_lt (b_truthy ?_)
    by_cases hq : placeI rows[i] sg[i] < 0
    · rw [decide_eq_true hq, if_pos rfl]
      refine wpAny_execs_cons (wpAny_Return_some (e_none ?_))
      refine hK _ _ (k _ _ _ _ (hs₁.trans (hs.trans hs₂)) (back _ _ _ _ _ S₇.tail.tail) ?_)
      have : fits rows sg = false := by
        rw [← Bool.not_eq_true]
        intro q
        have := List.all_eq_true.mp q (placeI rows[i] sg[i]) (by
          refine List.mem_iff_getElem.mpr ⟨i, by simp [plc]; (first | lia | omega), by simp [plc]⟩)
        simp at this; (first | lia | omega)
      unfold dMeas; rw [this, if_neg (by decide)]; exact .none
    · rw [decide_eq_false hq, if_neg (by decide)]
      obtain ⟨j, hj, ej, _, ed⟩ := placeI_some hq
      refine wpAny_execs_nil (wpAny_execs_cons (wpAny_AugAssign_Name ?_))
      refine n_loc S₇ (by walk_at "lk") ?_ (by walk_at "ev") (by walk_at "ev") (by walk_at "ev")
      refine Subscript_ (Subscript_ (Subscript_ ?_))
      walk_at "nm"
      walk_at "nm"
      refine x_L i rfl S₇ (hr.mono (hs₁.trans (hs.trans hs₂))) (d := dLine rows[i]) (by simp [hi2]) hz'' fun y hy => ?_
      walk_at "nm"
      refine x_L j ej S₇ hy (d := dPair rows[i][j]) (by simp [hj]) (by simpa using hz2 _ (List.getElem_mem hi2)) fun y hy => ?_
      refine e_int fun t₆ => ?_
      refine x_T 1 rfl S₇ hy rfl (by simp) fun z hz => ?_
      obtain ⟨tk, rfl⟩ := d_int hz
      refine i_iadd fun u₉ t₉ => ?_
      refine n_store S₇ (fun h₈ t₈ S₈ => ?_) (by walk_at "ev") (by walk_at "ev") (by walk_at "ev")
      refine wpAny_execs_cons (wpAny_Expr (MethodCall_ ?_ (by rfl)))
      walk_at "nm"
      refine m_list (S₈.getM (o := lO xs n) (by simp)) rfl rfl F.slot_list_append F.type_list_append ?_
      refine callWith_method1 (arg1 ?_)
      walk_at "nm"
      refine r_append (M₁ := [(I, o)]) S₈ (by (first | lia | omega)) fun h₉ S₉ => ?_
      refine wpAny_execs_nil (hK _ _ <| TurnE.next hs₂ (S₉.lc (l' := [("total", .int (T + rows[i][j].2) u₉), ("places", .ref pa), ("rows", r), ("signature", v)]) (by walk_at "lc")) ⟨_, _, _, _, rfl, rfl, by simp [hxl], ?_, ?_, ?_⟩)
      · rw [dst, zip_take _ _ _ _ hi2 hi', List.sum_append, ed, hT]; simp [dst]
      · rw [plc, zip_take _ _ _ _ hi2 hi', List.map_append]
        exact d_snoc (hdx.mono hs₂) (.int _ _)
      · rw [plc, zip_take _ _ _ _ hi2 hi']
        intro p hp
        rcases List.mem_append.mp hp with hp | hp
        · exact hpos p hp
        · rw [List.mem_singleton.mp hp]; (first | lia | omega)
  · rintro l' M' Z' h' t' hs ⟨T, uT, xs, n, rfl, rfl, hxl, hT, hdx, hpos⟩ S₄
    have tk : ∀ (ms : List Int), ms.length = rows.length → ms.take (sg.map Dat.str).length = ms := fun ms e => List.take_of_length_le (by simp; (first | lia | omega))
    have l1 : (plc rows sg).length = rows.length := by simp [plc]; (first | lia | omega)
    have l2 : (dst rows sg).length = rows.length := by simp [dst]; (first | lia | omega)
    rw [tk _ l1] at hdx hpos
    rw [tk _ l2] at hT
    refine wpAny_execs_cons (wpAny_Return_some (Tuple_ (arg2 ?_)))
    walk_at "nm"
    refine x_ty Bg S₄ (g_tuple w) b_tuple ?_ (by walk_at "ev") (by walk_at "ev") (by walk_at "ev") (by walk_at "ev")
    refine arg1 ?_
    walk_at "nm"
    refine r_tupM S₄ (List.mem_cons_self ..) hdx (by (first | lia | omega)) fun h₅ b Z₂ S₅ hs₂ hb => ?_
    refine r_tuple S₅ (.cons (.int _ _) (.cons hb .nil)) (by simp) fun h₆ c Z₃ S₆ hs₃ hc => ?_
    refine k _ _ _ _ (hs₁.trans (hs.trans (hs₂.trans hs₃))) (back _ _ _ _ _ S₆.tail) ?_
    have : fits rows sg = true := List.all_eq_true.mpr fun p hp => by simpa using hpos p hp
    unfold dMeas; rw [this, if_pos rfl, tot, ← hT]; exact hc
end
end Mine
end
section
open PySem PySem.W PySem.Calls PyProof.Rows
set_option maxHeartbeats 4000000
namespace Mine
theorem d_erase {Z : Led} {vs : List Value} {ds : List Dat} (h : DatAll Z vs ds) (i : Nat) : DatAll Z (vs.eraseIdx i) (ds.eraseIdx i) := by
  induction vs generalizing ds i with
  | nil => cases h; exact .nil
  | cons u vs ih => cases h with
    | cons a r => cases i with
      | zero => exact r
      | succ i => exact .cons a (ih r i)

theorem erase_map {α β : Type} (f : α → β) (l : List α) (i : Nat) : (l.map f).eraseIdx i = (l.eraseIdx i).map f := by
  induction l generalizing i with
  | nil => rfl
  | cons a l ih => cases i with
    | zero => rfl
    | succ i => simp [ih]

/-- a line: few pairs, the distances don't fall -/
structure LineOk (ln : Line) : Prop where
  len : ln.length ≤ 5
  mono : ln.Pairwise fun p q => p.2 ≤ q.2

theorem fn_line (w : World) : FnOk w 161 ["coins"] := ⟨by kernel_rfl!, by kernel_rfl!, by kernel_rfl!, by kernel_rfl!, by kernel_rfl!, by kernel_rfl!, by kernel_rfl!, by kernel_rfl!⟩
theorem bd_line (w : World) (a : Value) : bindArgs (fdAt w 161) ⟨[a], []⟩ = (pure ((["coins"] : List Str).zip [a]) : Sem Loc) := by kernel_rfl!


section
variable {w : World} {A : Around} {E : Value → Shared → Prop} {s : Shared} {h₀ h : Heap} {t : Nat} {L : Addr} {l : Loc} {M M₁ M₂ Z : Led} {env : Env}
  {tp : Program} {loose : List Str} {mean : ExcName → Option Value} {mg mb : Str → Option Value} {prog : Program} {a : Addr} {n : Nat} {xs vs : List Value} {ds es : List Dat} {d e : Dat} {v y r : Value} {Q : Value → Shared → Prop}

inductive LineJ (la na c : Addr) (M₁ M₂ : Led) (i : Nat) (l' : Loc) (M' Z' : Led) : Prop
  | mk (f0 : Int) (u : Tok) (xs : List Value) (ns : List Int) (n : Nat) (ys : List Value) (n₂ : Nat) (zs : List Value) (n₃ : Nat) (ln : Line) (nm : List Str) : l' = ([("far", .int f0 u), ("line", .ref la), ("names", .ref na), ("coins", .ref c)] : Loc) → M' = (la, lO ys n₂) :: (na, lO zs n₃) :: (M₁ ++ (c, lO xs n) :: M₂) → IntsAre xs ns → xs.length ≤ 1000 → ys.length = i → DatAll Z' ys (ln.map dPair) → DatAll Z' zs (nm.map Dat.str) → nm.length + i = 4 → ln.Pairwise (fun p q => p.2 ≤ q.2) → (∀ p ∈ ln, p.2 ≤ f0) → LineJ la na c M₁ M₂ i l' M' Z'
theorem c_line {c : Addr} {ns : List Int} (B : Base w tp loose mean mg mb h₀) (S : St h₀ L h l (M₁ ++ (c, lO xs n) :: M₂) Z) (R : Rm A 5) (hi : IntsAre xs ns) (hz : xs.length ≤ 1000)
    (k : ∀ h' t' Z' xs' ns' n' x ln, Sub Z Z' → IntsAre xs' ns' → xs'.length ≤ 1000 → St h₀ L h' l (M₁ ++ (c, lO xs' n') :: M₂) Z' → LineOk ln → DatIn Z' x (dLine ln) → Q x (up s h' t')) :
    wpAny (model prog w) A (call (.ref 161) [.ref c]) Q E (up s h t) := by
  refine call_fn [("coins", .ref c)] (fn_line w) (bd_line w _) rfl B S R fun g L' h₁ t₁ Bg back S' R' => ?_
  refine wpAny_execs_cons ?_
  walk_at "asn"
  refine List_ (args_cons (e_str fun t₂ => arg3 (e_str fun t₃ => e_str fun t₄ => e_str fun t₅ => ?_)))
  refine r_list S' (by simp) (fun h₄ na S₄ => ?_)
  refine n_store S₄ (fun h₅ t₅ S₅ => ?_) (by walk_at "ev") (by walk_at "ev") (by walk_at "ev")
  refine wpAny_execs_cons ?_
  walk_at "asn"
  refine List_ (args_nil ?_)
  refine r_list S₅ (by decide) (fun h₄ la S₄ => ?_)
  refine n_store S₄ (fun h₅ t₆ S₅ => ?_) (by walk_at "ev") (by walk_at "ev") (by walk_at "ev")
  refine wpAny_execs_cons ?_
  walk_at "asn"
  refine e_int fun t₇ => ?_
  refine n_store S₅ (fun h₆ t₈ S₆ => ?_) (by walk_at "ev") (by walk_at "ev") (by walk_at "ev")
  refine wpAny_execs_cons (s_for ?_ (by intro _; rfl))
  refine x_ty Bg S₆ (g_range w) b_range ?_ (by walk_at "ev") (by walk_at "ev") (by walk_at "ev") (by walk_at "ev")
  refine arg1 (wpAny_BinOp (e_int fun t₉ => ?_))
  refine x_def Bg S₆ (g_coin w) (k_154 w) ?_ (by walk_at "ev") (by walk_at "ev") (by walk_at "ev")
  refine arg2 ?_
  walk_at "nm"
  refine e_int fun t₁₀ => ⟨Bg.at S₆, ?_⟩
  refine c_coin (M₁ := (la, lO [] 0) :: (na, _) :: M₁) Bg S₆ R'.less hi hz (by decide) fun h₇ t₁₁ xs₁ ns₁ n₁ m u₁ m0 m4 hi₁ hz₁ S₇ => ?_
  refine i_add fun u₂ t₁₂ => ?_
  obtain ⟨m, rfl⟩ : ∃ k : Nat, m = (k : Int) := ⟨m.toNat, by (first | lia | omega)⟩
  rw [show (1 : Int) + (m : Int) = ((1 + m : Nat) : Int) by (first | lia | omega)]
  refine r_range S₇ fun h₈ t₁₃ ra t₁₄ u₄ v₄ Z₁ S₈ hs₁ hr₁ => ?_
  refine for_range (m := 1 + m) (S₈.lc (l' := [("far", .int 0 t₆), ("line", .ref la), ("names", .ref na), ("coins", .ref c)]) (by walk_at "lc")) R'.hh hr₁ (by (first | lia | omega))
    (LineJ la na c M₁ M₂) ?_ ?_ ?_
  · exact ⟨0, _, _, _, _, [], 0, _, 0, [], ["A", "B", "C", "D"], rfl, rfl, hi₁, hz₁, rfl, .nil, .cons (.str _ _) (.cons (.str _ _) (.cons (.str _ _) (.cons (.str _ _) .nil))), rfl, .nil, by simp⟩
  · intro i u₅ l' M' Z' h' t' I o E' him hs hJ₀ S₄ K hK
    obtain ⟨f0, uF, xs, ns, n, ys, n₂, zs, n₃, ln, nm, rfl, rfl, hi, hz, hyl, hdy, hdz, hnl, hmono, hF⟩ := hJ₀
    have hzl : zs.length = nm.length := by have := hdz.length; simpa using this
    refine as_name S₄ (fun h₅ t₅ S₅ => ?_) (by walk_at "ev") (by walk_at "ev") (by walk_at "ev")
    refine wpAny_execs_cons (wpAny_Expr (MethodCall_ ?_ (by rfl)))
    walk_at "nm"
    refine m_list (S₅.getM (o := lO ys n₂) (by simp)) rfl rfl F.slot_list_append F.type_list_append ?_
    refine callWith_method1 (arg1 (Tuple_ (arg2 (MethodCall_ ?_ (by rfl)))))
    walk_at "nm"
    refine m_list (S₅.getM (o := lO zs n₃) (by simp)) rfl rfl F.slot_list_pop F.type_list_pop ?_
    refine callWith_method1 (arg1 ?_)
    refine x_def Bg S₅ (g_coin w) (k_154 w) ?_ (by walk_at "ev") (by walk_at "ev") (by walk_at "ev")
    refine arg2 ?_
    walk_at "nm"
    refine x_bi Bg S₅ (g_len w) b_len ?_ (by walk_at "ev") (by walk_at "ev") (by walk_at "ev") (by walk_at "ev")
    refine arg1 ?_
    walk_at "nm"
    refine r_lenM S₅ (xs := zs) (n := n₃) (by simp) (by (first | lia | omega)) fun t₆ u₆ => ?_
    refine ⟨Bg.at S₅, ?_⟩
    refine c_coin (M₁ := (I, o) :: (la, lO ys n₂) :: (na, lO zs n₃) :: M₁) Bg S₅ R'.less hi hz (by (first | lia | omega)) fun h₇ t₇ xs₁ ns₁ n₁ r u₇ r0 r4 hi₁ hz₁ S₇ => ?_
    have hr : r.toNat < zs.length := by (first | lia | omega)
    obtain ⟨_, hdr⟩ := d_get hdz (k := r.toNat) (by simp; (first | lia | omega))
    refine r_popAt (M₁ := [(I, o), (la, lO ys n₂)]) S₇ r0 r4 (by (first | lia | omega)) (List.getElem?_eq_getElem hr) fun h₈ S₈ => ?_
    walk_at "nm"
    refine r_tuple (ds := [.str (nm[r.toNat]'(by (first | lia | omega))), .int f0]) S₈ (.cons (by simpa using hdr) (.cons (.int _ _) .nil)) (by simp) fun h₉ p Z₂ S₉ hs₂ hp => ?_
    refine r_append (M₁ := [(I, o)]) S₉ (by (first | lia | omega)) fun h₁₀ S₁₀ => ?_
    refine wpAny_execs_cons (wpAny_AugAssign_Name ?_)
    refine n_loc S₁₀ (by walk_at "lk") ?_ (by walk_at "ev") (by walk_at "ev") (by walk_at "ev")
    refine x_def Bg S₁₀ (g_coin w) (k_154 w) ?_ (by walk_at "ev") (by walk_at "ev") (by walk_at "ev")
    refine arg2 ?_
    walk_at "nm"
    refine e_int fun t₁₀ => ⟨Bg.at S₁₀, ?_⟩
    refine c_coin (M₁ := (I, o) :: (la, lO (ys ++ [.ref p]) (n₂ + 1)) :: (na, lO (zs.eraseIdx r.toNat) (n₃ + 1)) :: M₁) Bg S₁₀ R'.less hi₁ hz₁ (by decide) fun h₁₁ t₁₁ xs₂ ns₂ n₂' q u₁₁ q0 q2 hi₂ hz₂ S₁₁ => ?_
    refine i_iadd fun u₁₂ t₁₂ => ?_
    refine n_store S₁₁ (fun h₁₂ t₁₃ S₁₂ => ?_) (by walk_at "ev") (by walk_at "ev") (by walk_at "ev")
    refine wpAny_execs_nil (hK _ _ <| TurnE.next hs₂ (S₁₂.lc (l' := [("far", .int (f0 + q) u₁₂), ("line", .ref la), ("names", .ref na), ("coins", .ref c)]) (by walk_at "lc")) ⟨_, _, xs₂, ns₂, _, _, _, _, _, ln ++ [(nm[r.toNat]'(by (first | lia | omega)), f0)], nm.eraseIdx r.toNat, rfl, rfl, hi₂, hz₂, by simp [hyl], ?_, ?_, ?_, ?_, ?_⟩)
    · rw [List.map_append]; exact d_snoc (hdy.mono hs₂) hp
    · have := (d_erase hdz r.toNat).mono hs₂
      rwa [erase_map] at this
    · rw [List.length_eraseIdx_of_lt (by (first | lia | omega))]; (first | lia | omega)
    · exact List.pairwise_append.mpr ⟨hmono, List.pairwise_singleton _ _, fun a ha b hb => by rw [List.mem_singleton.mp hb]; exact hF a ha⟩
    · intro p hp
      rcases List.mem_append.mp hp with hp | hp
      · have := hF p hp; (first | lia | omega)
      · rw [List.mem_singleton.mp hp]; simp only; (first | lia | omega)
  · rintro l' M' Z' h' t' hs ⟨f0, uF, xs, ns, n, ys, n₂, zs, n₃, ln, nm, rfl, rfl, hi, hz, hyl, hdy, hdz, hnl, hmono, hF⟩ S₄
    refine wpAny_execs_cons (wpAny_Expr (MethodCall_ ?_ (by rfl)))
    walk_at "nm"
    refine m_list (S₄.getM (o := lO ys n₂) (by simp)) rfl rfl F.slot_list_append F.type_list_append ?_
    refine callWith_method1 (arg1 (Tuple_ (arg2 (e_str fun t₅ => wpAny_BinOp ?_))))
    walk_at "nm"
    refine e_int fun t₆ => i_add fun u₇ t₇ => ?_
    refine r_tuple (ds := [.str "ANY", .int (f0 + 1)]) S₄ (.cons (.str _ _) (.cons (.int _ _) .nil)) (by simp) fun h₉ p Z₂ S₉ hs₂ hp => ?_
    refine r_append (M₁ := []) S₉ (by (first | lia | omega)) fun h₁₀ S₁₀ => ?_
    refine wpAny_execs_cons (wpAny_Return_some ?_)
    walk_at "nm"
    obtain ⟨Z₃, S₁₁, hs₃, hd⟩ := fz_list (ds := (ln ++ [(("ANY" : Str), f0 + 1)]).map dPair) S₁₀ (by rw [List.map_append]; exact d_snoc (hdy.mono hs₂) hp)
    refine k _ _ _ _ _ _ _ ((ln : List (Str × Int)) ++ [(("ANY" : Str), f0 + 1)]) (hs₁.trans (hs.trans (hs₂.trans hs₃))) hi hz (back _ _ _ _ _ S₁₁.tail) ⟨?_, ?_⟩ hd
    · have := hdy.length; simp at this ⊢; (first | lia | omega)
    · exact List.pairwise_append.mpr ⟨hmono, List.pairwise_singleton _ _, fun a ha b hb => by rw [List.mem_singleton.mp hb]; have := hF a ha; show a.2 ≤ f0 + 1; (first | lia | omega)⟩
end
end Mine
end
section
open PySem PySem.W PySem.Calls PyProof.Rows
namespace Mine
theorem fn_init (w : World) : FnOk w 67 ["self"] := ⟨by kernel_rfl!, by kernel_rfl!, by kernel_rfl!, by kernel_rfl!, by kernel_rfl!, by kernel_rfl!, by kernel_rfl!, by kernel_rfl!⟩
theorem bd_init (w : World) (a : Value) : bindArgs (fdAt w 67) ⟨[a], []⟩ = (pure ((["self"] : List Str).zip [a]) : Sem Loc) := by kernel_rfl!
theorem fn_setgen (w : World) : FnOk w 74 ["self", "name", "arguments"] := ⟨by kernel_rfl!, by kernel_rfl!, by kernel_rfl!, by kernel_rfl!, by kernel_rfl!, by kernel_rfl!, by kernel_rfl!, by kernel_rfl!⟩
theorem bd_setgen (w : World) (a b c : Value) : bindArgs (fdAt w 74) ⟨[a, b, c], []⟩ = (pure ((["self", "name", "arguments"] : List Str).zip [a, b, c]) : Sem Loc) := by kernel_rfl!


section
variable {w : World} {A : Around} {E : Value → Shared → Prop} {s : Shared} {h₀ h : Heap} {t : Nat} {L : Addr} {l : Loc} {M M₁ M₂ Z : Led} {env : Env}
  {tp : Program} {loose : List Str} {mean : ExcName → Option Value} {mg mb : Str → Option Value} {prog : Program} {a : Addr} {n : Nat} {xs vs : List Value} {ds es : List Dat} {d e : Dat} {v y r : Value} {Q : Value → Shared → Prop}

theorem Rm.under {n : Nat} {c : Code} (R : Rm A (n + 1)) (hw : c.weight = 1) (hu : c.cUnits = 1) : Rm (A.under c) n :=
  ⟨R.hh, by have := R.hd; show A.depth + c.weight + n < _; (first | lia | omega), by have := R.hu; show A.units + c.cUnits + 4 * n + 80 < _; (first | lia | omega)⟩
theorem c_new (B : Base w tp loose mean mg mb h₀) (S : St h₀ L h l M Z) (R : Rm A 5)
    (k : ∀ h' t' Z' x gd og, Sub Z Z' → St h₀ L h' l ((gd, og) :: M) Z' → og.IsDictOf (strKind PG w) [] → Inst Z' x gd → Q (.ref x) (up s h' t')) :
    wpAny (model PG w) A (call (.ref 124) []) Q E (up s h t) := by
  obtain ⟨m, Fm, hm⟩ := S.fr
  refine call_cls (s := up s h t) Fm B.X S.N (by kernel_rfl!) (fI := 67) (by kernel_rfl!) (by kernel_rfl!) fun x dx h₁ F₁ N₁ lt hx => ?_
  have S₁ : St h₀ L h₁ l ((dx, dictOf [] 0) :: M) Z := by
    refine S.next F₁ hm (fun p hp => N₁ p (.tail _ hp)) lt
  have S₂ : St h₀ L h₁ l ((x, instObj 124 dx) :: (dx, dictOf [] 0) :: M) Z := by
    refine S₁.next F₁ hm N₁ fun p hp => ?_
    rcases List.mem_cons.mp hp with rfl | hp
    · exact hx
    · exact Nat.lt_trans (lt p hp) hx
  refine code_fn (s := s) (t := t) [("self", .ref x)] (fn_init w) (bd_init w _) rfl B S₂ (Rm.under R rfl rfl) fun g L' h₂ t₁ Bg back S' R' => ?_
  refine wpAny_execs_cons (plainObj_wpAny_Assign_Attribute ?_ (by walk_at "ev"))
  obtain ⟨m', F', hm'⟩ := S'.fr
  refine newDict_K (w := w) (s := up s h₂ t₁) F' S'.N Bg.T.nolimit fun d h₃ o F₃ N₃ ltd _ hd _ _ _ => ?_
  have S₃ := S'.next F₃ hm' N₃ ltd
  walk_at "nm"
  obtain ⟨m'', F'', hm''⟩ := S₃.fr
  refine set_dict (s := up s h₃ t₁) F'' Bg.X S₃.N (I := ?I) (ox := instObj 124 dx) (x := x) (dx := dx) (C := 124) (es := []) (n := 0) rfl (by kernel_rfl!) (by kernel_rfl!) (by kernel_rfl!) (by kernel_rfl!) (by rfl) rfl
    (St.upd2 (M₁ := [(d, o), (x, instObj 124 dx)]) S₃) (by simp [putL]) fun h₄ F₄ N₄ => ?_
  case I => exact ⟨S₃.getM (.tail _ (.head _)), rfl, rfl, S₃.getM (.tail _ (.tail _ (.head _)))⟩
  have S₄ := St.set (M₁ := [(d, o), (x, instObj 124 dx)]) S₃ F₄ hm'' N₄
  refine wpAny_execs_nil ⟨rfl, ?_⟩
  have S₅ := back _ _ _ _ _ S₄
  have S₆ := (S₅.perm (M' := (x, instObj 124 dx) :: (dx, _) :: (d, o) :: M) (((List.Perm.swap _ _ _).trans ((List.Perm.swap _ _ _).cons _)))).freeze.freeze
  exact k _ _ _ x d o ((Sub.cons _ _).trans (Sub.cons _ _)) S₆ hd ⟨_, _, _, _, .tail _ (.head _), .head _⟩

theorem c_setgen {x gd : Addr} {og : Obj} {u : Tok} {as : List Dat} (B : Base w tp loose mean mg mb h₀) (S : St h₀ L h l ((gd, og) :: M) Z) (R : Rm A 5) (hd : og.IsDictOf (strKind PG w) []) (I : Inst Z x gd) (hv : DatIn Z v (.list as)) (hz : as.length ≤ 1000)
    (k : ∀ h' t' Z' ml n, Sub Z Z' → St h₀ L h' l ((ml, lO [] n) :: M) Z' → TabIn w Z' x ml as → Q .none (up s h' t')) :
    wpAny (model PG w) A (call (.ref 74) [.ref x, .str "g" u, v]) Q E (up s h t) := by
  refine call_fn [("arguments", v), ("name", .str "g" u), ("self", .ref x)] (fn_setgen w) (bd_setgen w _ _ _) rfl B S R fun g L' h₁ t₁ Bg back S' R' => ?_
  refine wpAny_execs_cons (wpAny_Assign_Subscript ?_ (by walk_at "ev"))
  refine Tuple_ (arg2 ?_)
  refine x_ty Bg S' (g_list w) b_list ?_ (by walk_at "ev") (by walk_at "ev") (by walk_at "ev") (by walk_at "ev")
  refine arg1 ?_
  walk_at "nm"
  refine r_listL S' hv hz fun h₂ al vs na hva S₂ => ?_
  refine List_ (args_nil ?_)
  refine r_list S₂ (by decide) (fun h₃ ml S₃ => ?_)
  refine wpAny_newObj_type ?_ (by show 2 ≤ sizeLine; rw [sizeLine_eq]; decide)
  have S₄ := S₃.pushZ { cls := .type "tuple", data := .seq [Value.ref al, Value.ref ml].toArray }
  generalize htp : h₃.objs.size = tp at S₄
  refine x_attr Bg S₄ (I.mono (Sub.cons _ _)) (fun K q => ?_) fun t₄ => ?_
  · refine e_loc S₄ (by walk_at "lk") q (by walk_at "ev") (by walk_at "ev") (by walk_at "ev")
  refine e_loc S₄ (by walk_at "lk") ?_ (by walk_at "ev") (by walk_at "ev") (by walk_at "ev")
  obtain ⟨m', F', hm'⟩ := S₄.fr
  refine kda_set (knd := strKind PG w) (s := up s _ t₄) F' S₄.N (St.updF (M₁ := [(ml, lO [] 0), (al, lO vs na)]) S₄) hd (strKind_is _ _ _ _) (by rw [sizeLine_eq]; decide) fun h₅ o' F₅ N₅ hd' => ?_
  have S₅ := St.set (M₁ := [(ml, lO [] 0), (al, lO vs na)]) S₄ F₅ hm' N₅
  refine wpAny_execs_nil ?_
  have S₆ := back _ _ _ _ _ S₅
  have S₇ := (S₆.perm (M' := (al, lO vs na) :: (gd, o') :: (ml, lO [] 0) :: M) (((List.Perm.swap _ _ _).trans ((List.Perm.swap _ _ _).cons _)))).freeze.freeze
  refine k _ _ _ ml 0 ((Sub.cons _ _).trans ((Sub.cons _ _).trans (Sub.cons _ _))) S₇ ⟨gd, o', tp, 0, al, I.mono ((Sub.cons _ _).trans ((Sub.cons _ _).trans (Sub.cons _ _))), .head _, hd', .tail _ (.tail _ (.head _)), .list (n := na) (.tail _ (.head _)) (hva.mono ((Sub.cons _ _).trans ((Sub.cons _ _).trans (Sub.cons _ _))))⟩
end
end Mine
end
section
open PySem PySem.W PySem.Calls PyProof.Rows
namespace Mine
section
variable {w : World} {A : Around} {E : Value → Shared → Prop} {s : Shared} {h₀ h : Heap} {t : Nat} {L : Addr} {l : Loc} {M M₁ M₂ Z Z' : Led} {env : Env}
  {tp : Program} {loose : List Str} {mean : ExcName → Option Value} {mg mb : Str → Option Value} {prog : Program} {a : Addr} {n : Nat} {xs vs : List Value} {ds es : List Dat} {d e : Dat} {v y : Value} {Q : Value → Shared → Prop}

theorem cw_m {pos : Pos} {f : Addr} {ps : List Str} {first : List Value} {e₁ : Expr} {rest : List Expr} {s : Shared} (F : FnOk w f ps) (B : Base w tp loose mean mg mb h₀)
    (k : wpAny (model prog w) A (spliced (backTo pos (starEach (e₁ :: rest) env))) (fun vs s₁ => (∀ b o, h₀.get? b = some o → s₁.heap.get? b = some o) ∧ wpAny (model prog w) A (call (.ref f) (first ++ vs)) Q E s₁) E s)
    (he : starEach (e₁ :: rest) env = (false, eval e₁ env) :: starEach rest env := by rfl) : wpAny (model prog w) A (callWith pos (.ref f) first (backTo pos (starEach (e₁ :: rest) env)) []) Q E s :=
  callWith_meth (h₀ := h₀) rfl (B.X _ _ F.look) k he

theorem s_while0 {test : Expr} {body : List Stmt} {pos : Pos} {Q : Flow → Shared → Prop} {s : Shared}
    (k : ∀ E', wpAny (model prog w) A (isTrue test env (eval test env)) (fun b s₂ => b = false ∧ Q .next s₂) E' s) : wpAny (model prog w) A (exec (.While test body [] pos) env) Q E s := by
  refine wpAny_While (codeAny_whileLoop (fun _ s' => s' = s) ?_ 0 rfl)
  rintro k' s' rfl
  refine wpAny_mono (k _) (fun b s₂ h₂ => ?_) fun _ _ e => e
  obtain ⟨rfl, hq⟩ := h₂
  simp only [Bool.false_eq_true, if_false]
  exact wpAny_execs_nil hq

/-- an item of a tuple that stands in the frozen ledger -/
theorem x_Tz {value slice : Expr} {i : Int} {u : Tok} (j : Nat) (hij : i = (j : Int)) (S : St h₀ L h l M Z) (hm : (a, tO vs n) ∈ Z) (hj : vs[j]? = some v) (hz : vs.length ≤ 1000)
    (k : Q v (up s h t))
    (hs : ∀ a, subscripted slice false (.ref a) (.int i u) = operate [.ref a, .int i u] (getItem (.ref a) (.int i u)) := by intro _; with_unfolding_all rfl) : wpAny (model prog w) A (subscriptTail value slice (.ref a) (.int i u)) Q E (up s h t) := by
  subst hij
  obtain ⟨hl, e⟩ := List.getElem?_eq_some_iff.mp hj
  refine tail_any ⟨_, S.getZ hm, rfl⟩ slot_tuple_getitem.lookup ?_ (hs a)
  exact getItem_tuple (items := vs.toArray) ⟨_, S.getZ hm, rfl, n, rfl⟩ (by (first | lia | omega)) (by (first | lia | omega)) (seqIndex_ok (by (first | lia | omega)) (by simp; (first | lia | omega))) (by simpa using hj) k

/-- an item of a list that stands in the mutable ledger -/
theorem x_Lm {value slice : Expr} {i : Int} {u : Tok} (j : Nat) (hij : i = (j : Int)) (S : St h₀ L h l M Z) (hm : (a, lO xs n) ∈ M) (hj : xs[j]? = some v) (hz : xs.length ≤ 1000)
    (k : Q v (up s h t))
    (hs : ∀ a, subscripted slice false (.ref a) (.int i u) = operate [.ref a, .int i u] (getItem (.ref a) (.int i u)) := by intro _; with_unfolding_all rfl) : wpAny (model prog w) A (subscriptTail value slice (.ref a) (.int i u)) Q E (up s h t) := by
  subst hij
  obtain ⟨hl, e⟩ := List.getElem?_eq_some_iff.mp hj
  refine tail_any ⟨_, S.getM hm, rfl⟩ slot_list_getitem.lookup ?_ (hs a)
  exact wpAny_getItem_list ⟨_, S.getM hm, rfl, n, rfl⟩ (by (first | lia | omega)) (by (first | lia | omega)) (by simpa using hj) k

theorem r_setAt {i : Int} {u : Tok} {Q : Unit → Shared → Prop} (j : Nat) (hij : i = (j : Int)) (S : St h₀ L h l (M₁ ++ (a, lO xs n) :: M₂) Z) (hj : j < xs.length) (hz : xs.length ≤ 1000)
    (k : ∀ h' n', St h₀ L h' l (M₁ ++ (a, lO (xs.set j v) n') :: M₂) Z → Q () (up s h' t)) : wpAny (model prog w) A (setItem (.ref a) (.int i u) v) Q E (up s h t) := by
  subst hij
  have hg := S.getM (a := a) (o := lO xs n) (by simp)
  refine ki_setAt hg (by (first | lia | omega)) (by (first | lia | omega)) (by simpa using hj) (k _ n (S.upd (Heap.SameBut.update ..) ((Heap.get?_update_self _ hg rfl).trans ?_)))
  simp [Obj.mapSeq]
end
end Mine
end
section
open PySem PySem.W PySem.Calls PyProof.Rows
set_option maxHeartbeats 4000000
namespace Mine
section
variable {w : World} {A : Around} {E : Value → Shared → Prop} {s : Shared} {h₀ h : Heap} {t : Nat} {L : Addr} {l : Loc} {M M₁ M₂ Z : Led} {env : Env}
  {tp : Program} {loose : List Str} {mean : ExcName → Option Value} {mg mb : Str → Option Value} {prog : Program} {a : Addr} {n : Nat} {xs vs : List Value} {ds es : List Dat} {d e : Dat} {v y r : Value} {Q : Value → Shared → Prop}

theorem fn_full (w : World) : FnOk w 88 ["self", "name", "signature"] := ⟨by kernel_rfl!, by kernel_rfl!, by kernel_rfl!, by kernel_rfl!, by kernel_rfl!, by kernel_rfl!, by kernel_rfl!, by kernel_rfl!⟩
theorem bd_full (w : World) (a b c : Value) : bindArgs (fdAt w 88) ⟨[a, b, c], []⟩ = (pure ((["self", "name", "signature"] : List Str).zip [a, b, c]) : Sem Loc) := by kernel_rfl!
theorem fn_setm (w : World) : FnOk w 95 ["self", "name", "signature", "function"] := ⟨by kernel_rfl!, by kernel_rfl!, by kernel_rfl!, by kernel_rfl!, by kernel_rfl!, by kernel_rfl!, by kernel_rfl!, by kernel_rfl!⟩
theorem bd_setm (w : World) (a b c d : Value) : bindArgs (fdAt w 95) ⟨[a, b, c, d], []⟩ = (pure ((["self", "name", "signature", "function"] : List Str).zip [a, b, c, d]) : Sem Loc) := by kernel_rfl!

theorem TabIn.inst {w : World} {Z : Led} {x ml : Addr} {as : List Dat} (T : TabIn w Z x ml as) : Inst Z x T.choose := T.choose_spec.choose_spec.choose_spec.choose_spec.choose_spec.1
/-- self.generics[name] -/
theorem x_gend {x ml : Addr} {u : Tok} {as : List Dat} {p1 p2 p3 p4 : Pos} (B : Base w tp loose mean mg mb h₀) (S : St h₀ L h l M Z) (T : TabIn w Z x ml as)
    (h1 : l.lookup ("self" : Str) = some (.ref x)) (h2 : l.lookup ("name" : Str) = some (.str "g" u))
    (k : ∀ t' tpl nt al, (tpl, tO [.ref al, .ref ml] nt) ∈ Z → DatIn Z (.ref al) (.list as) → Q (.ref tpl) (up s h t'))
    (hL : env.locals = L) (hk : env.scope.kind = .function) (hx : env.kindOf "self" = some .local) (hy : env.kindOf "name" = some .local) :
    wpAny (model PG w) A (eval (.Subscript (.Attribute (.Name "self" p1) "generics" p2) (.Name "name" p3) p4) env) Q E (up s h t) := by
  obtain ⟨gd, og, tpl, nt, al, I, hgd, hod, htp, hal⟩ := T
  refine Subscript_ (x_attr B S I (fun K q => e_loc S h1 q hL hk hx (by decide +kernel)) fun t₁ => ?_)
  refine e_loc S h2 ?_ hL hk hy (by decide +kernel)
  have hD := kda_dict (s := up s h t₁) S.N (List.mem_append.mpr (.inr hgd)) hod
  exact tail_any hD.typeIs slot_dict_getitem.lookup (wpAny_getItem_of (strKind_is _ _ _ _) hD.mapOf (v := .ref tpl) (by rfl) (k _ _ _ _ htp hal)) (by with_unfolding_all rfl)

theorem c_full {x ml : Addr} {u : Tok} {as : List Dat} {sg : Sig} (B : Base w tp loose mean mg mb h₀) (S : St h₀ L h l M Z) (R : Rm A 5) (T : TabIn w Z x ml as) (hv : DatIn Z v (dSig sg)) (hl : sg.length = as.length) (hz : as.length ≤ 1000)
    (k : ∀ h' t' Z' a, Sub Z Z' → St h₀ L h' l M Z' → DatIn Z' (.ref a) (dSig sg) → Q (.ref a) (up s h' t')) :
    wpAny (model PG w) A (call (.ref 88) [.ref x, .str "g" u, v]) Q E (up s h t) := by
  refine call_fn [("signature", v), ("name", .str "g" u), ("self", .ref x)] (fn_full w) (bd_full w _ _ _) rfl B S R fun g L' h₁ t₁ Bg back S' R' => ?_
  have hz' : (sg.map Dat.str).length ≤ 1000 := by simp; omega
  refine wpAny_execs_cons ?_
  walk_at "asn"
  refine Subscript_ ?_
  refine x_gend Bg S' T (by walk_at "lk") (by walk_at "lk") (fun t₂ tpl nt al htp hal => ?_) (by walk_at "ev") (by walk_at "ev") (by walk_at "ev") (by walk_at "ev")
  refine e_int fun t₃ => ?_
  refine x_Tz 0 rfl S' htp rfl (by simp) ?_
  refine n_store S' (fun h₂ t₄ S₂ => ?_) (by walk_at "ev") (by walk_at "ev") (by walk_at "ev")
  refine wpAny_execs_cons ?_
  walk_at "asn"
  refine x_ty Bg S₂ (g_list w) b_list ?_ (by walk_at "ev") (by walk_at "ev") (by walk_at "ev") (by walk_at "ev")
  refine arg1 ?_
  walk_at "nm"
  refine r_listT S₂ hv hz' fun h₃ ca cs nc hcs S₃ => ?_
  have hcl : cs.length = as.length := by have := hcs.length; simp at this; omega
  refine n_store S₃ (fun h₄ t₅ S₄ => ?_) (by walk_at "ev") (by walk_at "ev") (by walk_at "ev")
  refine wpAny_execs_cons (s_while0 fun E' => ?_)
  refine isTrue_and (wpAny_isTrue_Compare1 ?_ (by walk_at "ev"))
  refine x_bi Bg S₄ (g_len w) b_len ?_ (by walk_at "ev") (by walk_at "ev") (by walk_at "ev") (by walk_at "ev")
  refine arg1 ?_
  walk_at "nm"
  refine r_lenM S₄ (xs := cs) (n := nc) (by simp) (by omega) fun t₆ u₆ => ?_
  refine x_bi Bg S₄ (g_len w) b_len ?_ (by walk_at "ev") (by walk_at "ev") (by walk_at "ev") (by walk_at "ev")
  refine arg1 ?_
  walk_at "nm"
  refine r_lenL S₄ hal (by omega) fun t₇ u₇ => ?_
  refine i_gt (b_truthy ?_)
  rw [hcl, decide_eq_false (by omega), if_neg (by decide)]
  refine ⟨rfl, ?_⟩
  refine wpAny_execs_cons (wpAny_If (wpAny_isTrue_Compare1 ?_ (by walk_at "ev")))
  refine x_bi Bg S₄ (g_len w) b_len ?_ (by walk_at "ev") (by walk_at "ev") (by walk_at "ev") (by walk_at "ev")
  refine arg1 ?_
  walk_at "nm"
  refine r_lenM S₄ (xs := cs) (n := nc) (by simp) (by omega) fun t₆ u₆ => ?_
  refine x_bi Bg S₄ (g_len w) b_len ?_ (by walk_at "ev") (by walk_at "ev") (by walk_at "ev") (by walk_at "ev")
  refine arg1 ?_
  walk_at "nm"
  refine r_lenL S₄ hal (by omega) fun t₇ u₇ => ?_
  refine i_gt (b_truthy ?_)
  rw [hcl, decide_eq_false (by omega), if_neg (by decide)]
  refine wpAny_execs_nil (wpAny_execs_cons (s_while0 fun E' => ?_))
  refine wpAny_isTrue_Compare1 ?_ (by walk_at "ev")
  refine x_bi Bg S₄ (g_len w) b_len ?_ (by walk_at "ev") (by walk_at "ev") (by walk_at "ev") (by walk_at "ev")
  refine arg1 ?_
  walk_at "nm"
  refine r_lenM S₄ (xs := cs) (n := nc) (by simp) (by omega) fun t₆ u₆ => ?_
  refine x_bi Bg S₄ (g_len w) b_len ?_ (by walk_at "ev") (by walk_at "ev") (by walk_at "ev") (by walk_at "ev")
  refine arg1 ?_
  walk_at "nm"
  refine r_lenL S₄ hal (by omega) fun t₇ u₇ => ?_
  refine i_lt (b_truthy ?_)
  rw [hcl, decide_eq_false (by omega)]
  refine ⟨rfl, ?_⟩
  refine wpAny_execs_cons (wpAny_Return_some ?_)
  refine x_ty Bg S₄ (g_tuple w) b_tuple ?_ (by walk_at "ev") (by walk_at "ev") (by walk_at "ev") (by walk_at "ev")
  refine arg1 ?_
  walk_at "nm"
  refine r_tupM S₄ (List.mem_cons_self ..) hcs (by omega) fun h₅ b Z₂ S₅ hs₂ hb => ?_
  exact k _ _ _ _ hs₂ (back _ _ _ _ _ S₅.tail) hb

/-- set_method -/
noncomputable def setM : List (Sig × Str) → Sig → Str → List (Sig × Str)
  | [], sg, f => [(sg, f)]
  | m :: ms, sg, f => if m.1 = sg then (sg, f) :: ms else m :: setM ms sg f
theorem setM_len (ms : List (Sig × Str)) (sg : Sig) (f : Str) : (setM ms sg f).length ≤ ms.length + 1 := by
  induction ms with
  | nil => simp [setM]
  | cons m ms ih => rw [setM]; split <;> simp <;> omega
theorem setM_hit {ms : List (Sig × Str)} {sg : Sig} {f : Str} (i : Nat) (hi : i < ms.length) (h0 : ∀ k (hk : k < ms.length), k < i → ms[k].1 ≠ sg) (h : ms[i].1 = sg) : setM ms sg f = ms.set i (sg, f) := by
  induction ms generalizing i with
  | nil => simp at hi
  | cons m ms ih =>
    rw [setM]
    cases i with
    | zero => simp at h; rw [if_pos h]; rfl
    | succ i =>
      have : m.1 ≠ sg := h0 0 (by simp) (by omega)
      rw [if_neg this, ih i (by simpa using hi) (fun k hk hki => h0 (k + 1) (by simpa using hk) (by omega)) (by simpa using h)]; rfl
theorem setM_none {ms : List (Sig × Str)} {sg : Sig} {f : Str} (h0 : ∀ k (hk : k < ms.length), ms[k].1 ≠ sg) : setM ms sg f = ms ++ [(sg, f)] := by
  induction ms with
  | nil => rfl
  | cons m ms ih =>
    have hm : m.1 ≠ sg := h0 0 (by simp)
    rw [setM, if_neg hm, ih (fun k hk => h0 (k + 1) (by simpa using hk))]; rfl
theorem d_set {Z : Led} {vs : List Value} {ds : List Dat} {x : Value} {d : Dat} (h : DatAll Z vs ds) (hx : DatIn Z x d) (i : Nat) : DatAll Z (vs.set i x) (ds.set i d) := by
  induction vs generalizing ds i with
  | nil => cases h; exact .nil
  | cons u vs ih => cases h with
    | cons a r => cases i with
      | zero => exact .cons hx r
      | succ i => exact .cons a (ih r i)
noncomputable def SigOk (sg : Sig) : Prop := ∀ x ∈ sg, PyData.strOk x = true
theorem okSig {sg : Sig} (h : SigOk sg) : kqdOk 8 (dSig sg) = true := by simpa [kqdOk, SigOk] using h
theorem dSig_inj {a b : Sig} (h : dSig a = dSig b) : a = b := by
  simp only [Dat.tuple.injEq] at h
  exact (List.map_inj_right (fun x y e => by injection e)).mp h

theorem c_setm {x ml : Addr} {u : Tok} {as : List Dat} {sg : Sig} {f : Str} {ms : List (Sig × Str)} (B : Base w tp loose mean mg mb h₀) (S : St h₀ L h l (M₁ ++ (ml, lO vs n) :: M₂) Z) (R : Rm A 8) (T : TabIn w Z x ml as) (hv : DatIn Z v (dSig sg)) (hy : DatIn Z y (.str f))
    (hms : DatAll Z vs (ms.map dMeth)) (hl : sg.length = as.length) (hz : as.length ≤ 1000) (hmz : ms.length ≤ 999) (hsg : SigOk sg) (hok : ∀ m ∈ ms, SigOk m.1)
    (k : ∀ h' t' Z' vs' n', Sub Z Z' → St h₀ L h' l (M₁ ++ (ml, lO vs' n') :: M₂) Z' → DatAll Z' vs' ((setM ms sg f).map dMeth) → Q .none (up s h' t')) :
    wpAny (model PG w) A (call (.ref 95) [.ref x, .str "g" u, v, y]) Q E (up s h t) := by
  refine call_fn [("function", y), ("signature", v), ("name", .str "g" u), ("self", .ref x)] (fn_setm w) (bd_setm w _ _ _ _) rfl B S R fun g L' h₁ t₁ Bg back S' R' => ?_
  have hvl : vs.length = ms.length := by have := hms.length; simpa using this
  refine wpAny_execs_cons ?_
  walk_at "asn"
  refine MethodCall_ ?_ (by rfl)
  walk_at "nm"
  refine m_inst Bg S' T.inst (by kernel_rfl!) (f := 88) (by kernel_rfl!) (by kernel_rfl!) (by decide +kernel) ?_
  refine cw_m (fn_full w) Bg (arg2 ?_)
  walk_at "nm"
  walk_at "nm"
  refine ⟨S'.stays', ?_⟩
  refine c_full Bg S' R'.less T hv hl hz fun h₂ t₂ Z₁ fa hs₁ S₂ hfa => ?_
  refine n_store S₂ (fun h₃ t₃ S₃ => ?_) (by walk_at "ev") (by walk_at "ev") (by walk_at "ev")
  refine wpAny_execs_cons ?_
  walk_at "asn"
  refine Subscript_ ?_
  refine x_gend Bg S₃ (T.mono hs₁) (by walk_at "lk") (by walk_at "lk") (fun t₂ tpl nt al htp hal => ?_) (by walk_at "ev") (by walk_at "ev") (by walk_at "ev") (by walk_at "ev")
  refine e_int fun t₃ => ?_
  refine x_Tz 1 rfl S₃ htp rfl (by simp) ?_
  refine n_store S₃ (fun h₄ t₄ S₄ => ?_) (by walk_at "ev") (by walk_at "ev") (by walk_at "ev")
  refine wpAny_execs_cons (s_for ?_ (by intro _; rfl))
  refine x_ty Bg S₄ (g_range w) b_range ?_ (by walk_at "ev") (by walk_at "ev") (by walk_at "ev") (by walk_at "ev")
  refine arg1 ?_
  refine x_bi Bg S₄ (g_len w) b_len ?_ (by walk_at "ev") (by walk_at "ev") (by walk_at "ev") (by walk_at "ev")
  refine arg1 ?_
  walk_at "nm"
  refine r_lenM S₄ (xs := vs) (n := n) (by simp) (by omega) fun tq uq => ?_
  refine r_range S₄ fun h₃ t₃ ra t₄ u₄ v₄ Z₂ S₅ hs₂ hr₁ => ?_
  refine for_range (m := vs.length) (S₅.lc (l' := [("methods", .ref ml), ("full", .ref fa), ("function", y)]) (by walk_at "lc")) R'.hh hr₁ (by omega)
    (fun i l' M' Z' => l' = ([("methods", .ref ml), ("full", .ref fa), ("function", y)] : Loc) ∧ M' = M₁ ++ (ml, lO vs n) :: M₂ ∧ ∀ k (hk : k < ms.length), k < i → ms[k].1 ≠ sg) ⟨rfl, rfl, fun k hk h => by omega⟩ ?_ ?_
  · intro i u₅ l' M' Z' h' t' I o E' him hs hJ₀ S₆ K hK
    obtain ⟨rfl, rfl, hno⟩ := hJ₀
    have hi' : i < ms.length := by omega
    have hsub := hs₁.trans (hs₂.trans hs)
    refine as_name S₆ (fun h₅ t₅ S₇ => ?_) (by walk_at "ev") (by walk_at "ev") (by walk_at "ev")
    refine wpAny_execs_cons (wpAny_If (wpAny_isTrue_Compare1 ?_ (by walk_at "ev")))
    refine Subscript_ (Subscript_ ?_)
    walk_at "nm"
    walk_at "nm"
    obtain ⟨hvi, hdi⟩ := d_get (hms.mono hsub) (k := i) (by simpa using hi')
    refine x_Lm i rfl S₇ (xs := vs) (n := n) (by simp) (List.getElem?_eq_getElem hvi) (by omega) ?_
    refine e_int fun t₆ => ?_
    have hdi' : DatIn Z' vs[i] (dMeth ms[i]) := by simpa using hdi
    refine x_T 0 rfl S₇ hdi' rfl (by simp) fun z hz => ?_
    walk_at "nm"
    refine r_eq (W₁ := Z') (W₂ := Z') S₇ R' hz (subZ _ _) (hfa.mono (hs₂.trans hs)) (subZ _ _) (okSig (hok _ (List.getElem_mem hi'))) (okSig hsg) fun bb hb => ?_
    refine b_truthy ?_
    cases bb with
    | true =>
      rw [if_pos rfl]
      have e1 : ms[i].1 = sg := by
        exact dSig_inj (hb.mp rfl)
      refine wpAny_execs_cons (wpAny_Assign_Subscript ?_ (by walk_at "ev"))
      refine Tuple_ (arg2 ?_)
      walk_at "nm"
      walk_at "nm"
      refine r_tuple S₇ (.cons (hfa.mono (hs₂.trans hs)) (.cons (hy.mono hsub) .nil)) (by simp) fun h₈ b Z₃ S₈ hs₃ hb => ?_
      walk_at "nm"
      walk_at "nm"
      refine r_setAt (M₁ := (I, o) :: M₁) i rfl S₈ (by omega) (by omega) fun h₉ n₉ S₉ => ?_
      refine wpAny_execs_cons ?_
      refine wpAny_Return_none ?_
      refine hK _ _ (k _ _ Z₃ _ _ (hsub.trans hs₃) (back _ _ _ _ _ S₉.tail) ?_)
      rw [setM_hit i hi' (fun k hk hki => hno k hk hki) e1, List.map_set]
      exact d_set (hms.mono (hsub.trans hs₃)) hb i
    | false =>
      rw [if_neg (by decide)]
      have e1 : ms[i].1 ≠ sg := fun e => by
        have := hb.mpr (by rw [e])
        cases this
      refine wpAny_execs_nil (wpAny_execs_nil (hK _ _ <| TurnE.next (Sub.refl _) (S₇.lc (by walk_at "lc")) ⟨rfl, rfl, fun k hk h => ?_⟩))
      rcases Nat.lt_succ_iff_lt_or_eq.mp h with h | h
      · exact hno k hk h
      · subst h; exact e1
  · rintro l' M' Z' h' t' hs ⟨rfl, rfl, hno⟩ S₆
    have hsub := hs₁.trans (hs₂.trans hs)
    refine wpAny_execs_cons (wpAny_Expr (MethodCall_ ?_ (by rfl)))
    walk_at "nm"
    refine m_list (S₆.getM (o := lO vs n) (by simp)) rfl rfl F.slot_list_append F.type_list_append ?_
    refine callWith_method1 (arg1 ?_)
    refine Tuple_ (arg2 ?_)
    walk_at "nm"
    walk_at "nm"
    refine r_tuple S₆ (.cons (hfa.mono (hs₂.trans hs)) (.cons (hy.mono hsub) .nil)) (by simp) fun h₈ b Z₃ S₈ hs₃ hb => ?_
    refine r_append S₈ (by omega) fun h₉ S₉ => ?_
    refine wpAny_execs_nil ?_
    refine k _ _ Z₃ _ _ (hsub.trans hs₃) (back _ _ _ _ _ S₉) ?_
    rw [setM_none fun k hk => hno k hk (by omega), List.map_append]
    exact d_snoc (hms.mono (hsub.trans hs₃)) hb

end
end Mine
end
section
open PySem PySem.W PySem.Calls PyProof.Rows
namespace Mine
section
variable {w : World} {A : Around} {E : Value → Shared → Prop} {s : Shared} {h₀ h : Heap} {t : Nat} {L : Addr} {l : Loc} {M M₁ M₂ Z Z' : Led} {env : Env}
  {tp : Program} {loose : List Str} {mean : ExcName → Option Value} {mg mb : Str → Option Value} {prog : Program} {a : Addr} {n : Nat} {xs vs : List Value} {ds es : List Dat} {d e : Dat} {v y : Value} {Q : Value → Shared → Prop} {o : Obj}

theorem strs_of {ss : List Str} (hd : DatAll Z vs (ss.map Dat.str)) : StrsAre vs ss := by
  induction ss generalizing vs with
  | nil => cases hd; exact .nil
  | cons x ss ih =>
    cases hd with
    | cons hx r => obtain ⟨t, rfl⟩ := d_str hx; exact .cons _ _ (ih r)
theorem ints_of {ns : List Int} (hd : DatAll Z vs (ns.map Dat.int)) : IntsAre vs ns := by
  induction ns generalizing vs with
  | nil => cases hd; exact .nil
  | cons x ss ih =>
    cases hd with
    | cons hx r => obtain ⟨t, rfl⟩ := d_int hx; exact .cons _ _ (ih r)

theorem r_notInS {ss : List Str} {x : Str} {u : Tok} (S : St h₀ L h l M Z) (hv : DatIn Z v (.list (ss.map .str))) (k : Q (.bool (!(ss.any (· == x)))) (up s h t)) :
    wpAny (model prog w) A (compareOp .NotIn (.str x u) v) Q E (up s h t) := by
  obtain ⟨a, vs, n, rfl, hm, hd⟩ := d_list hv
  exact notin_list_strs ⟨_, S.getZ hm, rfl, n, rfl⟩ (strs_of hd) k
theorem r_indexS {ss : List Str} {x : Str} {u : Tok} (j : Nat) (S : St h₀ L h l M Z) (hm : (a, lO vs n) ∈ Z) (hd : DatAll Z vs (ss.map .str)) (hj : ss[j]? = some x) (h0 : ∀ i (hi : i < ss.length), i < j → ss[i] ≠ x) (hz : ss.length ≤ 1000)
    (k : ∀ u t', Q (.int (j : Int) u) (up s h t')) : wpAny (model prog w) A (call (.builtin "list.index") [.ref a, .str x u]) Q E (up s h t) := by
  have hl := hd.length
  have hst := strs_of hd
  obtain ⟨hjl, hje⟩ := List.getElem?_eq_some_iff.mp hj
  simp only [List.length_map] at hl
  have at_ : ∀ i (h1 : i < vs.length) (h2 : i < ss.length), isStrOf x vs[i] = (ss[i] == x) := by
    intro i h1 h2
    obtain ⟨h3, h4⟩ := d_get hd (k := i) (by simpa using h2)
    have h4' : DatIn Z vs[i] (.str ss[i]) := by simpa using h4
    obtain ⟨tk, e⟩ := d_str h4'
    rw [e]; rfl
  refine call_meets F.slot_list_index ⟨_, S.getZ hm, rfl⟩ F.entry_list_index (F.args_list_index_2 _ _)
    (MeetsSeq.list_index a vs.toArray n (.str x u) (isStrOf x) (fun y hy => eq_isStrOf x u hst y (by simpa using hy)) j (by simp; omega) (by omega) ?_ ?_) ⟨S.getZ hm, k _ _⟩
  · show isStrOf x vs[j] = true
    rw [at_ j (by omega) hjl]; simpa using hje
  · intro i hi hlt
    have hi' : i < vs.length := by simpa using hi
    show isStrOf x vs[i] = false
    rw [at_ i hi' (by omega)]
    simpa using h0 i (by omega) hlt
theorem r_sumM {ns : List Int} (S : St h₀ L h l M Z) (hh : A.handled = none) (hm : (a, lO vs n) ∈ M) (hd : IntsAre vs ns)
    (k : ∀ h' t' u, St h₀ L h' l M Z → Q (.int ns.sum u) (up s h' t')) : wpAny (model prog w) A (call (.builtin "sum") [.ref a]) Q E (up s h t) := by
  have hl : h.IsList a vs.toArray := ⟨_, S.getM hm, rfl, n, rfl⟩
  have hal := hd.allInts
  obtain ⟨ys, hys⟩ := AllInts.items hal
  have hn := nums_intItems ys
  rw [← hys] at hn
  have e1 := hd.numsOf
  rw [hys] at hl
  refine sum_intListG hh hl fun h' tk t' hk => ?_
  rw [preSum_eq, List.take_of_length_le (by simp), ← hn, show vs.toArray.toList = vs from rfl, e1]
  exact k h' tk t' (S.keep hk)
theorem b_ne {p q : Bool} (k : Q (.bool (p != q)) (up s h t)) : wpAny (model prog w) A (compareOp .NotEq (.bool p) (.bool q)) Q E (up s h t) := PyProof.Rows.ne_bool k

theorem St.consNew (S : St h₀ L h l M Z) (ho : h.get? a = some o) (hL : a ≠ L) (h0 : h₀.get? a = none) (hM : ∀ p ∈ M ++ Z, p.1 ≠ a) : St h₀ L h l ((a, o) :: M) Z :=
  ⟨S.fr, fun p hp => by
    rcases List.mem_append.mp hp with hp | hp
    · rcases List.mem_cons.mp hp with rfl | hp
      · exact ⟨ho, hL, h0⟩
      · exact S.N p (List.mem_append.mpr (.inl hp))
    · exact S.N p (List.mem_append.mpr (.inr hp)),
   List.pairwise_cons.mpr ⟨fun p hp e => hM p (List.mem_append.mpr (.inl hp)) e.symm, S.nd⟩,
   fun p hp q hq => by
    rcases List.mem_cons.mp hp with rfl | hp
    · exact fun e => hM q (List.mem_append.mpr (.inr hq)) e.symm
    · exact S.sep p hp q hq⟩

noncomputable abbrev envCt (w : World) (f L : Addr) : Env := callEnvC (fdAt w f) L f
structure FnOk2 (w : World) (f : Addr) (x1 x2 : Str) : Prop where
  look : (KK w).lookup f = some ⟨.type "function", none, .func (fdAt w f), #[]⟩
  body : (fdAt w f).body = .stmts (bdAt w f)
  code : codeIn (KK w) (fdAt w f).code (fdAt w f).qualname = true
  clo : (fdAt w f).closure = []
  c1 : (fdAt w f).scope.names.lookup x1 = some .cell
  c2 : (fdAt w f).scope.names.lookup x2 = some .cell
  cells : ∀ L, cellsFrom (L + 1) (fdAt w f).scope.names [] = [(x2, L + 1 + 1), (x1, L + 1)]
  ne : (x1 == x2) = false
  co : (fdAt w f).scope.isCoroutine = false
  gen : (fdAt w f).scope.isGenerator = false
  kind : (fdAt w f).scope.kind = .function
theorem call_fn2 {f : Addr} {x1 x2 : Str} {v1 v2 : Value} (F : FnOk2 w f x1 x2) (hb : bindArgs (fdAt w f) ⟨[v1, v2], []⟩ = (pure [(x1, v1), (x2, v2)] : Sem Loc))
    (B : Base w tp loose mean mg mb h₀) (S : St h₀ L h l M Z) (R : Rm A (n + 1))
    (k : ∀ g L' h₁ t₁ o1 o2, Base w tp loose mean mg mb g → (∀ L'' h' l' M' Z', St g L'' h' l' M' Z' → St h₀ L h' l M' Z') → St g L' h₁ [] ((L' + 1, o1) :: (L' + 1 + 1, o2) :: M) Z → o1.data = .cell (some v1) → o2.data = .cell (some v2) → Rm (A.deeper (envCt w f L')) n →
      wpAny (model prog w) (A.deeper (envCt w f L')) (execs (bdAt w f) (envCt w f L')) (fun fl s' => Q (match fl with | .ret v => v | _ => .none) s') (fun _ _ => False) (up s h₁ t₁)) :
    wpAny (model prog w) A (call (.ref f) [v1, v2]) Q E (up s h t) := by
  obtain ⟨g, st, hsz, hgh, hn, back⟩ := S.enter
  have Xs := B.X.keeps S.stays
  have hne : x1 ≠ x2 := by have := F.ne; simpa using this
  refine wpAny_call (codeAny_call_cells (fd := fdAt w f) (body := bdAt w f) (binds := [(x1, v1), (x2, v2)]) R.room (Xs _ _ F.look) rfl (B.T.nolimit.keeps S.stays) (codeRec_of Xs F.code) F.body hb F.clo
    (fun x hx => ?_) (fun s₁ x => ?_) F.co F.gen F.kind)
  · refine .inr ?_
    rw [F.cells]
    rcases List.mem_cons.mp hx with rfl | hx
    · exact ⟨F.c1, by simp [List.lookup_cons, F.ne]⟩
    · rcases List.mem_cons.mp hx with rfl | hx
      · exact ⟨F.c2, by simp⟩
      · cases hx
  · obtain ⟨⟨h₁, t₁, rfl⟩, ns, keep, fresh⟩ := x.toInCall
    have k1 : (callEnvC (fdAt w f) h.objs.size f).kindOf x1 = some .cell := F.c1
    have k2 : (callEnvC (fdAt w f) h.objs.size f).kindOf x2 = some .cell := F.c2
    have S' : St g h.objs.size h₁ [] M Z := S.newFrame hsz hgh hn ns (Nat.le_refl _) keep fun x v e => by cases e
    have cs : (callEnvC (fdAt w f) h.objs.size f).cells = [(x2, h.objs.size + 1 + 1), (x1, h.objs.size + 1)] := F.cells _
    have C1 := x.cell x1 (h.objs.size + 1) (by show (callEnvC (fdAt w f) h.objs.size f).cells.lookup x1 = _; rw [cs]; simp [List.lookup_cons, F.ne])
    have C2 := x.cell x2 (h.objs.size + 1 + 1) (by show (callEnvC (fdAt w f) h.objs.size f).cells.lookup x2 = _; rw [cs]; simp)
    have e1 : bindC (callEnvC (fdAt w f) (up s h t).heap.objs.size f).kindOf [(x1, v1), (x2, v2)] (fun _ => none) x1 = some v1 := by
      show bindC (callEnvC (fdAt w f) h.objs.size f).kindOf [(x1, v1), (x2, v2)] (fun _ => none) x1 = some v1
      simp [bindC, k1, k2, hne]
    have e2 : bindC (callEnvC (fdAt w f) (up s h t).heap.objs.size f).kindOf [(x1, v1), (x2, v2)] (fun _ => none) x2 = some v2 := by
      show bindC (callEnvC (fdAt w f) h.objs.size f).kindOf [(x1, v1), (x2, v2)] (fun _ => none) x2 = some v2
      simp [bindC, k2]
    obtain ⟨o1, ho1, hd1⟩ := C1
    obtain ⟨o2, ho2, hd2⟩ := C2
    rw [e1] at hd1
    rw [e2] at hd2
    have gn : ∀ i, h.objs.size ≤ i → g.get? i = none := fun i hi => Heap.get?_none_of_le (by rw [hsz]; exact hi)
    have lt : ∀ p ∈ M ++ Z, p.1 < h.objs.size := fun p hp => S.lt (o := p.2) hp
    clear fresh
    have lt2 : ∀ p ∈ M ++ Z, p.1 ≠ h.objs.size + 1 + 1 := fun p hp => Nat.ne_of_lt (Nat.lt_succ_of_lt (Nat.lt_succ_of_lt (lt p hp)))
    have lt1 : ∀ p ∈ (h.objs.size + 1 + 1, o2) :: (M ++ Z), p.1 ≠ h.objs.size + 1 := fun p hp => by
      rcases List.mem_cons.mp hp with rfl | hp
      · exact Nat.succ_ne_self _
      · exact Nat.ne_of_lt (Nat.lt_succ_of_lt (lt p hp))
    have S₂ : St g h.objs.size h₁ [] ((h.objs.size + 1 + 1, o2) :: M) Z := S'.consNew ho2 (Nat.ne_of_gt (Nat.lt_succ_of_lt (Nat.lt_succ_self _))) (gn _ (Nat.le_succ_of_le (Nat.le_succ _))) lt2
    have S₃ : St g h.objs.size h₁ [] ((h.objs.size + 1, o1) :: (h.objs.size + 1 + 1, o2) :: M) Z := S₂.consNew ho1 (Nat.ne_of_gt (Nat.lt_succ_self _)) (gn _ (Nat.le_succ _)) lt1
    exact wpAny_mono (k g _ h₁ t₁ o1 o2 (B.keeps st) back S₃ hd1 hd2 R.deeper) (fun fl s' q => q) fun _ _ e => e.elim
end
end Mine
end
section
open PySem PySem.W PySem.Calls PyProof.Rows
set_option maxHeartbeats 4000000
namespace Mine
section
variable {w : World} {A : Around} {E : Value → Shared → Prop} {s : Shared} {h₀ h : Heap} {t : Nat} {L : Addr} {l : Loc} {M M₁ M₂ Z : Led} {env : Env}
  {tp : Program} {loose : List Str} {mean : ExcName → Option Value} {mg mb : Str → Option Value} {prog : Program} {a : Addr} {n : Nat} {xs vs : List Value} {ds es : List Dat} {d e : Dat} {v y r : Value} {Q : Value → Shared → Prop}

noncomputable def dSpots (rows : List Line) (sg : Sig) : Dat := if fits rows sg = true then dInts (plc rows sg) else .none
theorem fn_spots (w : World) : FnOk w 166 ["signature", "lines"] := ⟨by kernel_rfl!, by kernel_rfl!, by kernel_rfl!, by kernel_rfl!, by kernel_rfl!, by kernel_rfl!, by kernel_rfl!, by kernel_rfl!⟩
theorem bd_spots (w : World) (a b : Value) : bindArgs (fdAt w 166) ⟨[a, b], []⟩ = (pure ((["signature", "lines"] : List Str).zip [a, b]) : Sem Loc) := by kernel_rfl!

theorem placeI_neg {ln : Line} {x : Str} (h : x ∉ ln.map (·.1)) : placeI ln x = -1 :=
  placeI_none fun k hk e => h (List.mem_map.mpr ⟨ln[k], List.getElem_mem hk, e⟩)
theorem placeI_pos {ln : Line} {x : Str} (h : x ∈ ln.map (·.1)) : ∃ (i : Nat) (hi : i < ln.length), placeI ln x = i ∧ ln[i].1 = x ∧ ∀ k (hk : k < ln.length), k < i → ln[k].1 ≠ x := by
  obtain ⟨p, hp, rfl⟩ := List.mem_map.mp h
  cases q : placeIn ln p.1 with
  | none =>
    have := List.findIdx?_eq_none_iff.mp q p hp
    simp at this
  | some i =>
    obtain ⟨hi, e, h0⟩ := List.findIdx?_eq_some_iff_getElem.mp q
    refine ⟨i, hi, by unfold placeI; rw [q], by simpa using e, fun k hk hki => by simpa using h0 k hki⟩

theorem c_spots {rows : List Line} {sg : Sig} (B : Base w tp loose mean mg mb h₀) (S : St h₀ L h l M Z) (R : Rm A 5) (hv : DatIn Z v (dSig sg)) (hr : DatIn Z r (dLines rows)) (hl : sg.length = rows.length) (hz : rows.length ≤ 1000) (hz2 : ∀ ln ∈ rows, ln.length ≤ 1000)
    (k : ∀ h' t' Z' x, Sub Z Z' → St h₀ L h' l M Z' → DatIn Z' x (dSpots rows sg) → Q x (up s h' t')) :
    wpAny (model prog w) A (call (.ref 166) [v, r]) Q E (up s h t) := by
  refine call_fn [("lines", r), ("signature", v)] (fn_spots w) (bd_spots w _ _) rfl B S R fun g L' h₁ t₁ Bg back S' R' => ?_
  have hz' : (sg.map Dat.str).length ≤ 1000 := by simp; (first | lia | omega)
  have hz'' : (rows.map dLine).length ≤ 1000 := by simpa using hz
  refine wpAny_execs_cons ?_
  walk_at "asn"
  refine List_ (args_nil ?_)
  refine r_list S' (by decide) (fun h₄ pa S₄ => ?_)
  refine n_store S₄ (fun h₅ t₅ S₅ => ?_) (by walk_at "ev") (by walk_at "ev") (by walk_at "ev")
  refine wpAny_execs_cons (s_for ?_ (by intro _; rfl))
  refine x_ty Bg S₅ (g_range w) b_range ?_ (by walk_at "ev") (by walk_at "ev") (by walk_at "ev") (by walk_at "ev")
  refine arg1 ?_
  refine x_bi Bg S₅ (g_len w) b_len ?_ (by walk_at "ev") (by walk_at "ev") (by walk_at "ev") (by walk_at "ev")
  refine arg1 ?_
  walk_at "nm"
  refine r_lenL S₅ hr hz'' fun tq uq => ?_
  refine r_range S₅ fun h₃ t₃ ra t₄ u₄ v₄ Z₁ S₃ hs₁ hr₁ => ?_
  refine for_range (m := (rows.map dLine).length) (S₃.lc (l' := [("spots", .ref pa), ("lines", r), ("signature", v)]) (by walk_at "lc")) R'.hh hr₁ (by (first | lia | omega))
    (fun i l' M' Z' => ∃ xs n, l' = ([("spots", .ref pa), ("lines", r), ("signature", v)] : Loc) ∧ M' = (pa, lO xs n) :: M ∧ xs.length = i ∧ DatAll Z' xs (((plc rows sg).take i).map .int) ∧ ∀ p ∈ (plc rows sg).take i, 0 ≤ p) ?_ ?_ ?_
  · exact ⟨[], 0, rfl, rfl, rfl, by simpa using DatAll.nil, by simp⟩
  · intro i u₅ l' M' Z' h' t' I o E' hi hs hJ₀ S₄ K hK
    obtain ⟨xs, n, rfl, rfl, hxl, hdx, hpos⟩ := hJ₀
    have hi2 : i < rows.length := by simpa using hi
    have hi' : i < sg.length := by (first | lia | omega)
    have hsub := hs₁.trans hs
    have hln : rows[i].length ≤ 1000 := hz2 _ (List.getElem_mem hi2)
    refine as_name S₄ (fun h₅ t₅ S₅ => ?_) (by walk_at "ev") (by walk_at "ev") (by walk_at "ev")
    refine wpAny_execs_cons ?_
    refine s_comp (cl := []) (by walk_at "ev") (by walk_at "ev") (by walk_at "ev") (by walk_at "ev") (by intro _; rfl) ?_
    refine Subscript_ ?_
    walk_at "nm"
    walk_at "nm"
    refine x_L i rfl S₅ (hr.mono hsub) (d := dLine rows[i]) (by simp [hi2]) hz'' fun y hy => ?_
    refine comp_list S₅ R'.hh hy (by simpa using hln) (by walk_at "ev") (by walk_at "ev") (by walk_at "ev")
      (fun j acc M' Z'' => M' = (I, o) :: (pa, lO xs n) :: M ∧ DatAll Z'' acc ((rows[i].take j).map fun p => .str p.1)) ⟨rfl, by simpa using DatAll.nil⟩ ?_ ?_
    · intro g' C D I' j u acc kD M' Z'' h' t' o' E' hg' hj hu hs' hJ₀ hal S₆ K hK
      obtain ⟨rfl, hacc⟩ := hJ₀
      have hj' : j < rows[i].length := by simpa using hj
      show wpAny _ _ _ _ _ _
      refine Subscript_ ?_
      refine e_loc S₆ (by walk_at "lk") ?_ (by walk_at "ev") (by walk_at "ev") (by walk_at "ev")
      refine e_int fun t₆ => ?_
      have hu' : DatIn Z'' u (dPair rows[i][j]) := by simpa using hu
      refine x_T 0 rfl S₆ hu' rfl (by simp) fun z hz => ?_
      refine hK _ _ <| CompE.mk (Sub.refl _) S₆ ⟨rfl, ?_⟩
      rw [List.take_succ_eq_append_getElem hj', List.map_append]
      exact d_snoc hacc hz
    · rintro C oC D acc kD M' Z'' h'' t'' hs' ⟨rfl, hacc⟩ hal
      intro S₆
      refine as_name S₆ (fun h₇ t₇ S₇ => ?_) (by walk_at "ev") (by walk_at "ev") (by walk_at "ev")
      refine ⟨h₇, t₇, _, _, _, rfl, S₇, fun h₈ S₈ => ?_⟩
      have hds : DatAll Z'' acc ((rows[i].map (·.1)).map Dat.str) := by
        rw [List.take_of_length_le (by simp)] at hacc
        rw [List.map_map]; exact hacc
      obtain ⟨hsD, hD⟩ : Sub Z'' ((D, lO acc kD) :: Z'') ∧ DatIn ((D, lO acc kD) :: Z'') (.ref D) (.list ((rows[i].map (·.1)).map Dat.str)) := ⟨Sub.cons _ _, .list (.head _) (hds.mono (Sub.cons _ _))⟩
      have S₉ := S₈.freeze
      have hsub2 := hsub.trans (hs'.trans hsD)
      refine wpAny_execs_cons (wpAny_If (wpAny_isTrue_Compare1 ?_ (by walk_at "ev")))
      refine Subscript_ ?_
      walk_at "nm"
      walk_at "nm"
      refine x_T i rfl S₉ (hv.mono hsub2) (d := .str sg[i]) (by simp [hi']) hz' fun z hz => ?_
      obtain ⟨tk, rfl⟩ := d_str hz
      walk_at "nm"
      refine r_notInS S₉ hD (b_truthy ?_)
      by_cases hq : sg[i] ∈ rows[i].map (·.1)
      · have e1 : (!((rows[i].map (·.1)).any (· == sg[i]))) = false := by simpa using hq
        rw [e1, if_neg (by decide)]
        obtain ⟨j, hj, ej, ex, e0⟩ := placeI_pos hq
        refine wpAny_execs_nil (wpAny_execs_cons (wpAny_Expr (MethodCall_ ?_ (by rfl))))
        walk_at "nm"
        refine m_list (S₉.getM (o := lO xs n) (by simp)) rfl rfl F.slot_list_append F.type_list_append ?_
        refine callWith_method1 (arg1 (MethodCall_ ?_ (by rfl)))
        walk_at "nm"
        refine m_list (S₉.getZ (o := lO acc kD) (by simp)) rfl rfl F.slot_list_index F.type_list_index ?_
        refine callWith_method1 (arg1 ?_)
        refine Subscript_ ?_
        walk_at "nm"
        walk_at "nm"
        refine x_T i rfl S₉ (hv.mono hsub2) (d := .str sg[i]) (by simp [hi']) hz' fun z hz => ?_
        obtain ⟨tk, rfl⟩ := d_str hz
        refine r_indexS j S₉ (List.mem_cons_self ..) (hds.mono hsD) (by simp [hj, ex]) (fun k hk hkj => by simpa using e0 k (by simpa using hk) hkj) (by simpa using hln) fun u₈ t₈ => ?_
        refine r_append (M₁ := [(I, o)]) S₉ (by (first | lia | omega)) fun h₁₀ S₁₀ => ?_
        refine wpAny_execs_nil (hK _ _ <| TurnE.next (hs'.trans hsD) (S₁₀.lc (l' := [("spots", .ref pa), ("lines", r), ("signature", v)]) (by walk_at "lc")) ⟨_, _, rfl, rfl, by simp [hxl], ?_, ?_⟩)
        · rw [plc, zip_take _ _ _ _ hi2 hi', List.map_append, ej]
          exact d_snoc (hdx.mono (hs'.trans hsD)) (.int _ _)
        · rw [plc, zip_take _ _ _ _ hi2 hi']
          intro p hp
          rcases List.mem_append.mp hp with hp | hp
          · exact hpos p hp
          · rw [List.mem_singleton.mp hp]; (first | lia | omega)
      · have e1 : (!((rows[i].map (·.1)).any (· == sg[i]))) = true := by
          rw [Bool.not_eq_true', List.any_eq_false]
          intro x hx e
          exact hq ((beq_iff_eq.mp e) ▸ hx)
        rw [e1, if_pos rfl]
        refine wpAny_execs_cons (wpAny_Return_some (e_none ?_))
        refine hK _ _ (k _ _ _ _ hsub2 (back _ _ _ _ _ S₉.tail.tail) ?_)
        have : fits rows sg = false := by
          rw [← Bool.not_eq_true]
          intro q
          have := List.all_eq_true.mp q (placeI rows[i] sg[i]) (by
            refine List.mem_iff_getElem.mpr ⟨i, by simp [plc]; (first | lia | omega), by simp [plc]⟩)
          rw [placeI_neg hq] at this
          simp at this
        unfold dSpots; rw [this, if_neg (by decide)]; exact .none
  · rintro l' M' Z' h' t' hs ⟨xs, n, rfl, rfl, hxl, hdx, hpos⟩ S₄
    have l1 : (plc rows sg).length = rows.length := by simp [plc]; (first | lia | omega)
    rw [List.take_of_length_le (by simp; (first | lia | omega))] at hdx hpos
    refine wpAny_execs_cons (wpAny_Return_some ?_)
    walk_at "nm"
    obtain ⟨Z₃, S₁₁, hs₃, hd⟩ := fz_list (ds := (plc rows sg).map .int) S₄ hdx
    refine k _ _ _ _ (hs₁.trans (hs.trans hs₃)) (back _ _ _ _ _ S₁₁) ?_
    have : fits rows sg = true := List.all_eq_true.mpr fun p hp => by simpa using hpos p hp
    unfold dSpots; rw [this, if_pos rfl]; exact hd
end
end Mine
end
section
open PySem PySem.W PySem.Calls PyProof.Rows
set_option maxHeartbeats 4000000
namespace Mine
section
variable {w : World} {A : Around} {E : Value → Shared → Prop} {s : Shared} {h₀ h : Heap} {t : Nat} {L : Addr} {l : Loc} {M M₁ M₂ Z : Led} {env : Env}
  {tp : Program} {loose : List Str} {mean : ExcName → Option Value} {mg mb : Str → Option Value} {prog : Program} {a : Addr} {n : Nat} {xs vs : List Value} {ds es : List Dat} {d e : Dat} {v y r : Value} {Q : Value → Shared → Prop}

theorem fn_total (w : World) : FnOk2 w 171 "spots" "lines" := ⟨by kernel_rfl!, by kernel_rfl!, by kernel_rfl!, by kernel_rfl!, by kernel_rfl!, by kernel_rfl!, by intro L; kernel_rfl!, by kernel_rfl!, by kernel_rfl!, by kernel_rfl!, by kernel_rfl!⟩
theorem bd_total (w : World) (a b : Value) : bindArgs (fdAt w 171) ⟨[a, b], []⟩ = (pure [("spots", a), ("lines", b)] : Sem Loc) := by kernel_rfl!
theorem fn_before (w : World) : FnOk w 178 ["one", "two", "lines"] := ⟨by kernel_rfl!, by kernel_rfl!, by kernel_rfl!, by kernel_rfl!, by kernel_rfl!, by kernel_rfl!, by kernel_rfl!, by kernel_rfl!⟩
theorem bd_before (w : World) (a b c : Value) : bindArgs (fdAt w 178) ⟨[a, b, c], []⟩ = (pure ((["one", "two", "lines"] : List Str).zip [a, b, c]) : Sem Loc) := by kernel_rfl!

local macro_rules | `(tactic| walk_at "cl") => `(tactic| refine e_cell (by assumption) (by walk_at "lk") ?m ?d ?_ (by walk_at "ev") (by walk_at "ev"))

theorem fits_at {rows : List Line} {sg : Sig} (hf : fits rows sg = true) {i : Nat} (h1 : i < rows.length) (h2 : i < sg.length) : ¬ placeI rows[i] sg[i] < 0 := by
  have := List.all_eq_true.mp hf (placeI rows[i] sg[i]) (List.mem_iff_getElem.mpr ⟨i, by simp [plc]; (first | lia | omega), by simp [plc]⟩)
  simp at this; (first | lia | omega)

theorem c_total {rows : List Line} {sg : Sig} (B : Base w tp loose mean mg mb h₀) (S : St h₀ L h l M Z) (R : Rm A 5) (hf : fits rows sg = true) (hv : DatIn Z v (dInts (plc rows sg))) (hr : DatIn Z r (dLines rows)) (hl : sg.length = rows.length) (hz : rows.length ≤ 1000) (hz2 : ∀ ln ∈ rows, ln.length ≤ 1000)
    (k : ∀ h' t' u, St h₀ L h' l M Z → Q (.int (tot rows sg) u) (up s h' t')) :
    wpAny (model prog w) A (call (.ref 171) [v, r]) Q E (up s h t) := by
  refine call_fn2 (fn_total w) (bd_total w _ _) B S R fun g L' h₁ t₁ o1 o2 Bg back S' hd1 hd2 R' => ?_
  have hpl : (plc rows sg).length = rows.length := by simp [plc]; (first | lia | omega)
  have hz' : ((plc rows sg).map Dat.int).length ≤ 1000 := by simp; (first | lia | omega)
  have hz'' : (rows.map dLine).length ≤ 1000 := by simpa using hz
  refine wpAny_execs_cons (wpAny_Return_some ?_)
  refine x_bi Bg S' (g_sum w) b_sum ?_ (by walk_at "ev") (by walk_at "ev") (by walk_at "ev") (by walk_at "ev")
  refine arg1 ?_
  refine e_comp (cl := [("spots", L' + 1), ("lines", L' + 1 + 1)]) (by walk_at "ev") (by walk_at "ev") (by walk_at "ev") (by intro _; rfl) ?_
  refine x_ty Bg S' (g_range w) b_range ?_ (by walk_at "ev") (by walk_at "ev") (by walk_at "ev") (by walk_at "ev")
  refine arg1 ?_
  refine x_bi Bg S' (g_len w) b_len ?_ (by walk_at "ev") (by walk_at "ev") (by walk_at "ev") (by walk_at "ev")
  refine arg1 ?_
  refine e_cell S' (c := L' + 1) (by walk_at "ev") (List.mem_cons_self ..) hd1 ?_ (by walk_at "ev") (by walk_at "ev")
  refine r_lenL S' hv hz' fun tq uq => ?_
  refine r_range S' fun h₃ t₃ ra t₄ u₄ v₄ Z₁ S₃ hs₁ hr₁ => ?_
  refine comp_range (m := ((plc rows sg).map Dat.int).length) S₃ R'.hh hr₁ hz' (by walk_at "ev") (by walk_at "ev") (by walk_at "ev")
    (fun j acc M' Z'' => M' = (L' + 1, o1) :: (L' + 1 + 1, o2) :: M ∧ Z'' = Z₁ ∧ DatAll Z'' acc (((dst rows sg).take j).map .int)) ⟨rfl, rfl, by simpa using DatAll.nil⟩ ?_ ?_
  · intro g' C D I' j u acc kD M' Z'' h' t' o' E' hg' hj hs' hJ₀ hal S₆ K hK
    obtain ⟨rfl, rfl, hacc⟩ := hJ₀
    have hj1 : j < (plc rows sg).length := by simpa using hj
    have hj2 : j < rows.length := by (first | lia | omega)
    have hj3 : j < sg.length := by (first | lia | omega)
    obtain ⟨q, hq, eq, _, ed⟩ := placeI_some (fits_at hf hj2 hj3)
    show wpAny _ _ _ _ _ _
    refine Subscript_ (Subscript_ (Subscript_ ?_))
    refine e_cell S₆ (c := L' + 1 + 1) (o := o2) (by walk_at "ev") (by simp) hd2 ?_ (by walk_at "ev") (by walk_at "ev")
    refine e_loc S₆ (by walk_at "lk") ?_ (by walk_at "ev") (by walk_at "ev") (by walk_at "ev")
    refine x_L j rfl S₆ (hr.mono (hs₁.trans hs')) (d := dLine rows[j]) (by simp [hj2]) hz'' fun y hy => ?_
    refine Subscript_ ?_
    refine e_cell S₆ (c := L' + 1) (o := o1) (by walk_at "ev") (by simp) hd1 ?_ (by walk_at "ev") (by walk_at "ev")
    refine e_loc S₆ (by walk_at "lk") ?_ (by walk_at "ev") (by walk_at "ev") (by walk_at "ev")
    refine x_L j rfl S₆ (hv.mono (hs₁.trans hs')) (d := .int (placeI rows[j] sg[j])) (by rw [List.getElem?_map, List.getElem?_eq_getElem hj1]; simp [plc]) hz' fun z hz => ?_
    obtain ⟨tk, rfl⟩ := d_int hz
    refine x_L q eq S₆ hy (d := dPair rows[j][q]) (by simp [hq]) (by simpa using hz2 _ (List.getElem_mem hj2)) fun y hy => ?_
    refine e_int fun t₆ => ?_
    refine x_T 1 rfl S₆ hy rfl (by simp) fun z hz => ?_
    refine hK _ _ <| CompE.mk (Sub.refl _) S₆ ⟨rfl, rfl, ?_⟩
    rw [dst, zip_take _ _ _ _ hj2 hj3, List.map_append, ed]
    exact d_snoc hacc hz
  · rintro C oC D acc kD M' Z'' h'' t'' hs' ⟨rfl, rfl, hacc⟩ hal
    intro h₇ S₇
    have hdl : (dst rows sg).length = rows.length := by simp [dst]; (first | lia | omega)
    rw [List.take_of_length_le (by simp; (first | lia | omega))] at hacc
    refine r_sumM S₇ R'.hh (List.mem_cons_self ..) (ints_of hacc) fun h₈ t₈ u₈ S₈ => ?_
    exact k _ _ _ ((back _ _ _ _ _ S₈.tail.tail.tail).subZ hs₁)

noncomputable def lexI : List Int → List Int → Bool
  | a :: as, b :: bs => if a ≠ b then decide (a < b) else lexI as bs
  | _, _ => false
noncomputable def before (rows : List Line) (one two : Sig) : Bool := if tot rows one ≠ tot rows two then decide (tot rows one < tot rows two) else lexI (plc rows one) (plc rows two)
theorem lexI_hit : ∀ {as bs : List Int} (i : Nat) (h1 : i < as.length) (h2 : i < bs.length), (∀ k (h3 : k < i), as[k]'(by (first | lia | omega)) = bs[k]'(by (first | lia | omega))) → as[i] ≠ bs[i] → lexI as bs = decide (as[i] < bs[i])
  | a :: as, b :: bs, 0, _, _, _, h => by
    have h : a ≠ b := h
    rw [lexI, if_pos h]; rfl
  | a :: as, b :: bs, i + 1, h1, h2, h0, h => by
    have e : a = b := h0 0 (by (first | lia | omega))
    rw [lexI, if_neg (by simp [e])]
    exact lexI_hit i (by simpa using h1) (by simpa using h2) (fun k hk => h0 (k + 1) (by (first | lia | omega))) h
theorem lexI_same : ∀ {as bs : List Int}, as.length = bs.length → (∀ k (h3 : k < as.length) (h4 : k < bs.length), as[k] = bs[k]) → lexI as bs = false
  | [], _, _, _ => by simp [lexI]
  | a :: as, [], _, _ => by simp [lexI]
  | a :: as, b :: bs, hl, h => by
    have e : a = b := h 0 (by simp) (by simp)
    rw [lexI, if_neg (by simp [e])]
    exact lexI_same (by simpa using hl) fun k h3 h4 => h (k + 1) (by simpa using h3) (by simpa using h4)

theorem c_before {rows : List Line} {s1 s2 : Sig} {v1 v2 : Value} (B : Base w tp loose mean mg mb h₀) (S : St h₀ L h l M Z) (R : Rm A 8) (hf1 : fits rows s1 = true) (hf2 : fits rows s2 = true) (hv1 : DatIn Z v1 (dInts (plc rows s1))) (hv2 : DatIn Z v2 (dInts (plc rows s2)))
    (hr : DatIn Z r (dLines rows)) (hl1 : s1.length = rows.length) (hl2 : s2.length = rows.length) (hz : rows.length ≤ 1000) (hz2 : ∀ ln ∈ rows, ln.length ≤ 1000)
    (k : ∀ h' t' Z', Sub Z Z' → St h₀ L h' l M Z' → Q (.bool (before rows s1 s2)) (up s h' t')) :
    wpAny (model prog w) A (call (.ref 178) [v1, v2, r]) Q E (up s h t) := by
  refine call_fn [("lines", r), ("two", v2), ("one", v1)] (fn_before w) (bd_before w _ _ _) rfl B S R fun g L' h₁ t₁ Bg back S' R' => ?_
  have hp1 : (plc rows s1).length = rows.length := by simp [plc]; (first | lia | omega)
  have hp2 : (plc rows s2).length = rows.length := by simp [plc]; (first | lia | omega)
  have hz1 : ((plc rows s1).map Dat.int).length ≤ 1000 := by simp; (first | lia | omega)
  have hz22 : ((plc rows s2).map Dat.int).length ≤ 1000 := by simp; (first | lia | omega)
  refine wpAny_execs_cons (wpAny_If (wpAny_isTrue_Compare1 ?_ (by walk_at "ev")))
  refine x_def Bg S' (g_total w) (k_171 w) ?_ (by walk_at "ev") (by walk_at "ev") (by walk_at "ev")
  refine arg2 ?_
  walk_at "nm"
  walk_at "nm"
  refine ⟨Bg.at S', ?_⟩
  refine c_total Bg S' R'.less hf1 hv1 hr hl1 hz hz2 fun h₂ t₂ u₂ S₂ => ?_
  refine x_def Bg S₂ (g_total w) (k_171 w) ?_ (by walk_at "ev") (by walk_at "ev") (by walk_at "ev")
  refine arg2 ?_
  walk_at "nm"
  walk_at "nm"
  refine ⟨Bg.at S₂, ?_⟩
  refine c_total Bg S₂ R'.less hf2 hv2 hr hl2 hz hz2 fun h₃ t₃ u₃ S₃ => ?_
  refine i_ne (b_truthy ?_)
  by_cases hq : tot rows s1 = tot rows s2
  · have e1 : (tot rows s1 != tot rows s2) = false := by simp [hq]
    have eb : before rows s1 s2 = lexI (plc rows s1) (plc rows s2) := by rw [before, if_neg (by simp [hq])]
    rw [e1, if_neg (by decide)]
    refine wpAny_execs_nil (wpAny_execs_cons (s_for ?_ (by intro _; rfl)))
    refine x_ty Bg S₃ (g_range w) b_range ?_ (by walk_at "ev") (by walk_at "ev") (by walk_at "ev") (by walk_at "ev")
    refine arg1 ?_
    refine x_bi Bg S₃ (g_len w) b_len ?_ (by walk_at "ev") (by walk_at "ev") (by walk_at "ev") (by walk_at "ev")
    refine arg1 ?_
    walk_at "nm"
    refine r_lenL S₃ hv1 hz1 fun tq uq => ?_
    refine r_range S₃ fun h₃ t₃ ra t₄ u₄ v₄ Z₁ S₃ hs₁ hr₁ => ?_
    refine for_range (m := ((plc rows s1).map Dat.int).length) S₃ R'.hh hr₁ (by (first | lia | omega))
      (fun i l' M' Z' => l' = ([("lines", r), ("two", v2), ("one", v1)] : Loc) ∧ M' = M ∧ ∀ k (h1 : k < (plc rows s1).length) (h2 : k < (plc rows s2).length), k < i → (plc rows s1)[k] = (plc rows s2)[k]) ⟨rfl, rfl, fun k _ _ h => by (first | lia | omega)⟩ ?_ ?_
    · intro i u₅ l' M' Z' h' t' I o E' hi hs hJ₀ S₄ K hK
      obtain ⟨rfl, rfl, hno⟩ := hJ₀
      have hi1 : i < (plc rows s1).length := by simpa using hi
      have hi2 : i < (plc rows s2).length := by (first | lia | omega)
      have hsub := hs₁.trans hs
      refine as_name S₄ (fun h₅ t₅ S₅ => ?_) (by walk_at "ev") (by walk_at "ev") (by walk_at "ev")
      refine wpAny_execs_cons (wpAny_If (wpAny_isTrue_Compare1 ?_ (by walk_at "ev")))
      refine Subscript_ ?_
      walk_at "nm"
      walk_at "nm"
      refine x_L i rfl S₅ (hv1.mono hsub) (d := .int (plc rows s1)[i]) (by simp [hi1]) hz1 fun z hz => ?_
      obtain ⟨tk1, rfl⟩ := d_int hz
      refine Subscript_ ?_
      walk_at "nm"
      walk_at "nm"
      refine x_L i rfl S₅ (hv2.mono hsub) (d := .int (plc rows s2)[i]) (by simp [hi2]) hz22 fun z hz => ?_
      obtain ⟨tk2, rfl⟩ := d_int hz
      refine i_ne (b_truthy ?_)
      by_cases hx : (plc rows s1)[i] = (plc rows s2)[i]
      · have e1 : ((plc rows s1)[i] != (plc rows s2)[i]) = false := by simp [hx]
        rw [e1, if_neg (by decide)]
        refine wpAny_execs_nil (wpAny_execs_nil (hK _ _ <| TurnE.next (Sub.refl _) (S₅.lc (by walk_at "lc")) ⟨rfl, rfl, fun k h1 h2 h => ?_⟩))
        rcases Nat.lt_succ_iff_lt_or_eq.mp h with h | h
        · exact hno k h1 h2 h
        · subst h; exact hx
      · have e1 : ((plc rows s1)[i] != (plc rows s2)[i]) = true := by simp [hx]
        rw [e1, if_pos rfl]
        refine wpAny_execs_cons (wpAny_Return_some (wpAny_Compare1 ?_ (by walk_at "ev")))
        refine Subscript_ ?_
        walk_at "nm"
        walk_at "nm"
        refine x_L i rfl S₅ (hv1.mono hsub) (d := .int (plc rows s1)[i]) (by simp [hi1]) hz1 fun z hz => ?_
        obtain ⟨tk1, rfl⟩ := d_int hz
        refine Subscript_ ?_
        walk_at "nm"
        walk_at "nm"
        refine x_L i rfl S₅ (hv2.mono hsub) (d := .int (plc rows s2)[i]) (by simp [hi2]) hz22 fun z hz => ?_
        obtain ⟨tk2, rfl⟩ := d_int hz
        refine i_lt ?_
        rw [← lexI_hit i hi1 hi2 (fun k hk => hno k (by (first | lia | omega)) (by (first | lia | omega)) hk) hx, ← eb]
        exact hK _ _ (k _ _ _ hsub (back _ _ _ _ _ S₅.tail))
    · rintro l' M' Z' h' t' hs ⟨rfl, rfl, hno⟩ S₄
      refine wpAny_execs_cons (wpAny_Return_some (e_bool ?_))
      rw [← lexI_same (as := plc rows s1) (bs := plc rows s2) (by (first | lia | omega)) (fun k h3 h4 => hno k h3 h4 (by simpa using h3)), ← eb]
      exact k _ _ _ (hs₁.trans hs) (back _ _ _ _ _ S₄)
  · have e1 : (tot rows s1 != tot rows s2) = true := by simp [hq]
    rw [e1, if_pos rfl]
    refine wpAny_execs_cons (wpAny_Return_some (wpAny_Compare1 ?_ (by walk_at "ev")))
    refine x_def Bg S₃ (g_total w) (k_171 w) ?_ (by walk_at "ev") (by walk_at "ev") (by walk_at "ev")
    refine arg2 ?_
    walk_at "nm"
    walk_at "nm"
    refine ⟨Bg.at S₃, ?_⟩
    refine c_total Bg S₃ R'.less hf1 hv1 hr hl1 hz hz2 fun h₂ t₂ u₂ S₂ => ?_
    refine x_def Bg S₂ (g_total w) (k_171 w) ?_ (by walk_at "ev") (by walk_at "ev") (by walk_at "ev")
    refine arg2 ?_
    walk_at "nm"
    walk_at "nm"
    refine ⟨Bg.at S₂, ?_⟩
    refine c_total Bg S₂ R'.less hf2 hv2 hr hl2 hz hz2 fun h₃ t₃ u₃ S₃ => ?_
    refine i_lt ?_
    have eb : before rows s1 s2 = decide (tot rows s1 < tot rows s2) := by rw [before, if_pos hq]
    rw [← eb]
    exact k _ _ _ (Sub.refl _) (back _ _ _ _ _ S₃)
end
end Mine
end
section
open PySem PySem.W PySem.Calls PyProof.Rows
namespace Mine
/-- a sort's questions answered by a plain function -/
noncomputable def sat {α : Type} (n : Nat) (lt : Nat → Nat → Bool) : KasT α → (α → Prop) → Prop
  | .ret a, Q => Q a
  | .ask i j k, Q => i < n ∧ j < n ∧ sat n lt (k (lt i j)) Q
theorem sat_bind {α β : Type} {n : Nat} {lt : Nat → Nat → Bool} {f : α → KasT β} {Q : β → Prop} : ∀ (t : KasT α), sat n lt t (fun a => sat n lt (f a) Q) → sat n lt (t.bind f) Q
  | .ret _, h => h
  | .ask i j k, h => ⟨h.1, h.2.1, sat_bind (k (lt i j)) h.2.2⟩
theorem sat_mono {α : Type} {n : Nat} {lt : Nat → Nat → Bool} {Q Q' : α → Prop} (hq : ∀ a, Q a → Q' a) : ∀ (t : KasT α), sat n lt t Q → sat n lt t Q'
  | .ret a, h => hq a h
  | .ask i j k, h => ⟨h.1, h.2.1, sat_mono hq (k (lt i j)) h.2.2⟩
theorem sat_wp {α : Type} {n : Nat} {lt : Nat → Nat → Bool} {Q : α → Prop} {Q' : α → Shared → Prop} {s : Shared} {cmp : Nat → Nat → (Bool → Shared → Prop) → Shared → Prop}
    (hc : ∀ i j C, i < n → j < n → C (lt i j) s → cmp i j C s) (hq : ∀ a, Q a → Q' a s) : ∀ (t : KasT α), sat n lt t Q → t.kasWp cmp Q' s
  | .ret a, h => hq a h
  | .ask i j k, h => hc i j _ h.1 h.2.1 (sat_wp hc hq (k (lt i j)) h.2.2)

theorem sat_ask {α : Type} {n : Nat} {lt : Nat → Nat → Bool} {Q : α → Prop} {i j : Nat} {T₁ T₂ : KasT α} (hi : i < n) (hj : j < n) (h1 : lt i j = true → sat n lt T₁ Q) (h2 : lt i j = false → sat n lt T₂ Q) :
    sat n lt (.ask i j fun c => if c = true then T₁ else T₂) Q := by
  refine ⟨hi, hj, ?_⟩
  cases q : lt i j with
  | true => show sat n lt (if true = true then T₁ else T₂) Q; rw [if_pos rfl]; exact h1 q
  | false => show sat n lt (if false = true then T₁ else T₂) Q; rw [if_neg (by decide)]; exact h2 q

structure Ord (n : Nat) (lt : Nat → Nat → Bool) : Prop where
  tot : ∀ i j, i < n → j < n → i ≠ j → lt i j = true ∨ lt j i = true
  asym : ∀ i j, i < n → j < n → lt i j = true → lt j i = false
  trans : ∀ i j k, i < n → j < n → k < n → lt i j = true → lt j k = true → lt i k = true

noncomputable def Inv (n : Nat) (p : Array Nat) : Prop := p.toList.Perm (List.range n)
theorem Inv.size {n : Nat} {p : Array Nat} (h : Inv n p) : p.size = n := by have := h.length_eq; simpa using this
theorem gD {p : Array Nat} {k : Nat} (h : k < p.size) : p.getD k 0 = p[k] := by simp [Array.getD, h]
theorem gD? {p q : Array Nat} {k j : Nat} (hk : k < p.size) (hj : j < q.size) (h : p[k]? = q[j]?) : p.getD k 0 = q.getD j 0 := by
  rw [gD hk, gD hj]
  rw [Array.getElem?_eq_getElem hk, Array.getElem?_eq_getElem hj] at h
  exact Option.some.inj h
theorem Inv.lt {n : Nat} {p : Array Nat} (h : Inv n p) {k : Nat} (hk : k < n) : p.getD k 0 < n := by
  have hs := h.size
  rw [gD (by (first | lia | omega))]
  have : p[k] ∈ List.range n := h.mem_iff.mp (by rw [Array.mem_toList_iff]; exact Array.getElem_mem (by (first | lia | omega)))
  simpa using this
theorem Inv.inj {n : Nat} {p : Array Nat} (h : Inv n p) {i j : Nat} (hi : i < n) (hj : j < n) (e : p.getD i 0 = p.getD j 0) : i = j := by
  have hs := h.size
  have nd : p.toList.Nodup := h.nodup_iff.mpr List.nodup_range
  rw [gD (by (first | lia | omega)), gD (by (first | lia | omega))] at e
  have hi' : i < p.toList.length := by simp; (first | lia | omega)
  have hj' : j < p.toList.length := by simp; (first | lia | omega)
  exact (List.getElem_inj (h₀ := hi') (h₁ := hj') nd).mp (by simpa using e)
theorem Inv.perm {n : Nat} {p q : Array Nat} (h : Inv n p) (hq : q.Perm p) : Inv n q := (Array.perm_iff_toList_perm.mp hq).trans h

section
variable {n : Nat} {lt : Nat → Nat → Bool} {p : Array Nat}
noncomputable abbrev R (lt : Nat → Nat → Bool) (p : Array Nat) (i j : Nat) : Prop := lt (p.getD i 0) (p.getD j 0) = true
noncomputable def Srt (lt : Nat → Nat → Bool) (p : Array Nat) (m : Nat) : Prop := ∀ i j, i < j → j < m → R lt p i j
theorem R.tot (O : Ord n lt) (h : Inv n p) {i j : Nat} (hi : i < n) (hj : j < n) (hne : i ≠ j) : R lt p i j ∨ R lt p j i := O.tot _ _ (h.lt hi) (h.lt hj) fun e => hne (h.inj hi hj e)
theorem R.trans (O : Ord n lt) (h : Inv n p) {i j k : Nat} (hi : i < n) (hj : j < n) (hk : k < n) (a : R lt p i j) (b : R lt p j k) : R lt p i k := O.trans _ _ _ (h.lt hi) (h.lt hj) (h.lt hk) a b
theorem R.not (O : Ord n lt) (h : Inv n p) {i j : Nat} (hi : i < n) (hj : j < n) (a : R lt p i j) : lt (p.getD j 0) (p.getD i 0) = false := O.asym _ _ (h.lt hi) (h.lt hj) a
theorem srt_chain (O : Ord n lt) (h : Inv n p) {m : Nat} (hm : m ≤ n) (c : ∀ k, 1 ≤ k → k < m → R lt p (k - 1) k) : Srt lt p m := by
  intro i j hij hj
  induction j with
  | zero => first | lia | omega
  | succ j ih =>
    have hc := c (j + 1) (by (first | lia | omega)) hj
    rw [Nat.add_sub_cancel] at hc
    rcases Nat.lt_or_ge i j with h1 | h1
    · exact R.trans O h (by (first | lia | omega)) (by (first | lia | omega)) (by (first | lia | omega)) (ih h1 (by (first | lia | omega))) hc
    · have : i = j := by (first | lia | omega)
      subst this; exact hc

theorem sat_asc (O : Ord n lt) (h : Inv n p) : ∀ (f a : Nat), 1 ≤ a → a + f ≤ n → sat n lt (kas_asc p f a) (fun m => a ≤ m ∧ m ≤ a + f ∧ (∀ k, a ≤ k → k < m → R lt p (k - 1) k) ∧ (m < a + f → R lt p m (m - 1)))
  | 0, a, _, _ => ⟨Nat.le_refl _, Nat.le_refl _, fun k h1 h2 => by (first | lia | omega), fun h => by (first | lia | omega)⟩
  | f + 1, a, h1, h2 => by
    refine sat_ask (h.lt (by (first | lia | omega))) (h.lt (by (first | lia | omega))) (fun q => ⟨Nat.le_refl _, by (first | lia | omega), fun k h1 h2 => by (first | lia | omega), fun _ => q⟩) fun q => ?_
    refine sat_mono (fun m hm => ⟨by (first | lia | omega), by (first | lia | omega), fun k hk1 hk2 => ?_, fun hh => hm.2.2.2 (by (first | lia | omega))⟩) _ (sat_asc O h f (a + 1) (by (first | lia | omega)) (by (first | lia | omega)))
    by_cases e : k = a
    · subst e
      rcases R.tot O h (i := k - 1) (j := k) (by (first | lia | omega)) (by (first | lia | omega)) (by (first | lia | omega)) with r | r
      · exact r
      · have r' : lt (p.getD k 0) (p.getD (k - 1) 0) = true := r
        rw [q] at r'; cases r'
    · exact hm.2.2.1 k (by (first | lia | omega)) hk2
theorem sat_desc (O : Ord n lt) (h : Inv n p) : ∀ (f a : Nat), 1 ≤ a → a + f ≤ n → sat n lt (kas_desc f p a 0) (fun r => r.1 = p ∧ r.2.2 = 0 ∧ a ≤ r.2.1 ∧ r.2.1 ≤ a + f ∧ ∀ k, a ≤ k → k < r.2.1 → R lt p k (k - 1))
  | 0, a, _, _ => ⟨rfl, rfl, Nat.le_refl _, Nat.le_refl _, fun k h1 h2 => by dsimp only at h2; (first | lia | omega)⟩
  | f + 1, a, h1, h2 => by
    refine sat_ask (h.lt (by (first | lia | omega))) (h.lt (by (first | lia | omega))) (fun q => ?_) fun q => sat_ask (h.lt (by (first | lia | omega))) (h.lt (by (first | lia | omega))) (fun q2 => ?_) fun q2 => ?_
    · rw [if_neg (by (first | lia | omega))]
      refine sat_mono (fun r hm => ⟨hm.1, hm.2.1, by (first | lia | omega), by (first | lia | omega), fun k hk1 hk2 => ?_⟩) _ (sat_desc O h f (a + 1) (by (first | lia | omega)) (by (first | lia | omega)))
      by_cases e : k = a
      · subst e; exact q
      · exact hm.2.2.2.2 k (by (first | lia | omega)) hk2
    · exact ⟨rfl, rfl, Nat.le_refl _, by dsimp only; (first | lia | omega), fun k h1 h2 => by dsimp only at h2; (first | lia | omega)⟩
    · exfalso
      rcases R.tot O h (i := a - 1) (j := a) (by (first | lia | omega)) (by (first | lia | omega)) (by (first | lia | omega)) with r | r
      · have r' : lt (p.getD (a - 1) 0) (p.getD a 0) = true := r
        rw [q2] at r'; cases r'
      · have r' : lt (p.getD a 0) (p.getD (a - 1) 0) = true := r
        rw [q] at r'; cases r'
theorem rev_get (h : Inv n p) {m k : Nat} (hm : m ≤ n) (hk : k < n) : (kas_rev p 0 m).getD k 0 = if k < m then p.getD (m - 1 - k) 0 else p.getD k 0 := by
  have hs := h.size
  have g := getElem?_mirror_all (xs := p) (i := 0) (j := m) (by (first | lia | omega)) k
  have hz : (kas_rev p 0 m).size = n := (kas_rev_size _ _).trans hs
  by_cases hkm : k < m
  · rw [if_pos hkm]
    rw [if_pos ⟨Nat.zero_le _, hkm⟩] at g
    rw [show 0 + m - 1 - k = m - 1 - k by (first | lia | omega)] at g
    exact gD? (by (first | lia | omega)) (by (first | lia | omega)) g
  · rw [if_neg hkm]
    rw [if_neg (by (first | lia | omega))] at g
    exact gD? (by (first | lia | omega)) (by (first | lia | omega)) g
theorem rev_inv (h : Inv n p) (m : Nat) : Inv n (kas_rev p 0 m) := h.perm (mirror_perm _ _ _ _)

noncomputable abbrev CountOk (n : Nat) (lt : Nat → Nat → Bool) (r : Nat × Array Nat) : Prop := 1 ≤ r.1 ∧ r.1 ≤ n ∧ Inv n r.2 ∧ Srt lt r.2 r.1
theorem sat_tail3 (O : Ord n lt) (h : Inv n p) {a : Nat} (h1 : 1 ≤ a) (h2 : a ≤ n) (c : ∀ k, 1 ≤ k → k < a → R lt p k (k - 1)) : sat n lt (kas_tail3 a n p) (CountOk n lt) := by
  unfold kas_tail3
  refine sat_bind _ (sat_mono (fun m hm => ?_) _ (sat_asc O (rev_inv h a) (n - a) a h1 (by (first | lia | omega))))
  refine ⟨by dsimp only; (first | lia | omega), by dsimp only; (first | lia | omega), rev_inv h a, srt_chain O (rev_inv h a) (by dsimp only; (first | lia | omega)) fun k hk1 hk2 => ?_⟩
  dsimp only at hk2
  by_cases e : k < a
  · have := c (a - 1 - (k - 1)) (by (first | lia | omega)) (by (first | lia | omega))
    show lt ((kas_rev p 0 a).getD (k - 1) 0) ((kas_rev p 0 a).getD k 0) = true
    rw [rev_get h h2 (by (first | lia | omega)), rev_get h h2 (by (first | lia | omega)), if_pos (by (first | lia | omega)), if_pos e]
    have e2 : a - 1 - k = a - 1 - (k - 1) - 1 := by (first | lia | omega)
    rw [e2]; exact this
  · exact hm.2.2.1 k (by (first | lia | omega)) hk2
theorem sat_descPart (O : Ord n lt) (h : Inv n p) (h2 : 2 ≤ n) (c : R lt p 1 0) : sat n lt (kas_descPart 1 n p) (CountOk n lt) := by
  unfold kas_descPart
  refine sat_bind _ (sat_mono (fun r hr => ?_) _ (sat_desc O h (n - (1 + 1)) (1 + 1) (by (first | lia | omega)) (by (first | lia | omega))))
  obtain ⟨p', m, q⟩ := r
  obtain ⟨rfl, e0, h3, h4, h5⟩ := hr
  dsimp only at e0 h3 h4 h5 ⊢
  rw [if_neg (by (first | lia | omega))]
  refine sat_tail3 O h (by (first | lia | omega)) (by (first | lia | omega)) fun k hk1 hk2 => ?_
  by_cases e : k = 1
  · subst e; exact c
  · exact h5 k (by (first | lia | omega)) hk2
theorem sat_count (O : Ord n lt) (h : Inv n p) (h2 : 2 ≤ n) : sat n lt (kas_count n p) (CountOk n lt) := by
  unfold kas_count
  refine sat_bind _ (sat_mono (fun m hm => ?_) _ (sat_asc O h (n - 1) 1 (Nat.le_refl _) (by (first | lia | omega))))
  obtain ⟨m1, m2, m3, m4⟩ := hm
  have S : Srt lt p m := srt_chain O h (by (first | lia | omega)) m3
  by_cases e : (m == n) = true
  · rw [if_pos e]; exact ⟨m1, by dsimp only; (first | lia | omega), h, S⟩
  · rw [if_neg e]
    have e' : m ≠ n := fun q => e (by rw [q]; exact beq_self_eq_true _)
    by_cases e1 : m > 1
    · rw [if_pos e1]
      refine sat_ask (h.lt (by (first | lia | omega))) (h.lt (by (first | lia | omega))) (fun q => ⟨m1, by dsimp only; (first | lia | omega), h, S⟩) fun q => ?_
      have : lt (p.getD 0 0) (p.getD (m - 1) 0) = true := S 0 (m - 1) (by (first | lia | omega)) (by (first | lia | omega))
      rw [q] at this; cases this
    · rw [if_neg e1]
      have : m = 1 := by (first | lia | omega)
      subst this
      exact sat_descPart O h h2 (m4 (by (first | lia | omega)))

theorem sat_place (O : Ord n lt) (h : Inv n p) {k : Nat} (hk : k < n) (S : Srt lt p k) : ∀ (f l r : Nat), r - l ≤ f → l ≤ r → r ≤ k → (∀ j, j < l → R lt p j k) → (∀ j, r ≤ j → j < k → R lt p k j) →
    sat n lt (kas_place p k f l r) (fun m => m ≤ k ∧ (∀ j, j < m → R lt p j k) ∧ ∀ j, m ≤ j → j < k → R lt p k j)
  | 0, l, r, h1, h2, h3, a, b => by
    have : l = r := by (first | lia | omega)
    subst this
    exact ⟨h3, a, b⟩
  | f + 1, l, r, h1, h2, h3, a, b => by
    unfold kas_place
    by_cases e : l ≥ r
    · rw [if_pos e]
      have : l = r := by (first | lia | omega)
      subst this
      exact ⟨h3, a, b⟩
    · rw [if_neg e]
      have hm1 : l ≤ (l + r) / 2 := by (first | lia | omega)
      have hm2 : (l + r) / 2 < r := by (first | lia | omega)
      generalize (l + r) / 2 = mid at hm1 hm2 ⊢
      refine sat_ask (h.lt hk) (h.lt (by (first | lia | omega))) (fun q => ?_) fun q => ?_
      · refine sat_place O h hk S f l mid (by (first | lia | omega)) hm1 (by (first | lia | omega)) a fun j hj1 hj2 => ?_
        by_cases ej : j = mid
        · subst ej; exact q
        · exact R.trans O h hk (by (first | lia | omega)) (by (first | lia | omega)) q (S mid j (by (first | lia | omega)) hj2)
      · have hr : R lt p mid k := by
          rcases R.tot O h (i := mid) (j := k) (by (first | lia | omega)) hk (by (first | lia | omega)) with r | r
          · exact r
          · have r' : lt (p.getD k 0) (p.getD mid 0) = true := r
            rw [q] at r'; cases r'
        refine sat_place O h hk S f (mid + 1) r (by (first | lia | omega)) (by (first | lia | omega)) h3 (fun j hj => ?_) b
        by_cases ej : j = mid
        · subst ej; exact hr
        · exact R.trans O h (by (first | lia | omega)) (by (first | lia | omega)) hk (S j mid (by (first | lia | omega)) (by (first | lia | omega))) hr
theorem bub_get (h : Inv n p) {k d j : Nat} (hk : k < n) (hd : d ≤ k) (hj : j < n) : (bubble p k d).getD j 0 = if j = k - d then p.getD k 0 else if k - d < j ∧ j ≤ k then p.getD (j - 1) 0 else p.getD j 0 := by
  have hs := h.size
  have g := getElem?_bubble (xs := p) (src := k) (by (first | lia | omega)) d hd j
  have hz : (bubble p k d).size = n := (bubble_size _ _ _).trans hs
  by_cases h1 : j = k - d
  · rw [if_pos h1] at g ⊢; exact gD? (by (first | lia | omega)) (by (first | lia | omega)) g
  · rw [if_neg h1] at g ⊢
    by_cases h2 : k - d < j ∧ j ≤ k
    · rw [if_pos h2] at g ⊢; exact gD? (by (first | lia | omega)) (by (first | lia | omega)) g
    · rw [if_neg h2] at g ⊢; exact gD? (by (first | lia | omega)) (by (first | lia | omega)) g
theorem bub_srt (O : Ord n lt) (h : Inv n p) {k m : Nat} (hk : k < n) (S : Srt lt p k) (hm : m ≤ k) (a : ∀ j, j < m → R lt p j k) (b : ∀ j, m ≤ j → j < k → R lt p k j) : Srt lt (bubble p k (k - m)) (k + 1) := by
  intro i j hij hj
  show lt _ _ = true
  rw [bub_get h hk (by (first | lia | omega)) (by (first | lia | omega)), bub_get h hk (by (first | lia | omega)) (by (first | lia | omega))]
  rw [show k - (k - m) = m by (first | lia | omega)]
  by_cases i1 : i = m
  · rw [if_pos i1, if_neg (by (first | lia | omega)), if_pos (by (first | lia | omega))]
    exact b (j - 1) (by (first | lia | omega)) (by (first | lia | omega))
  · rw [if_neg i1]
    by_cases i2 : m < i ∧ i ≤ k
    · rw [if_pos i2, if_neg (by (first | lia | omega)), if_pos (by (first | lia | omega))]
      exact S (i - 1) (j - 1) (by (first | lia | omega)) (by (first | lia | omega))
    · rw [if_neg i2]
      by_cases j1 : j = m
      · rw [if_pos j1]; exact a i (by (first | lia | omega))
      · rw [if_neg j1]
        by_cases j2 : m < j ∧ j ≤ k
        · rw [if_pos j2]
          by_cases e : i = j - 1
          · first | lia | omega
          · exact S i (j - 1) (by (first | lia | omega)) (by (first | lia | omega))
        · rw [if_neg j2]; exact S i j hij (by (first | lia | omega))
theorem sat_bin (O : Ord n lt) : ∀ (f : Nat) (p : Array Nat) (k : Nat), Inv n p → Srt lt p k → k + f = n → sat n lt (kas_bin f p k) (fun p' => Inv n p' ∧ Srt lt p' n)
  | 0, p, k, h, S, e => by
    have : k = n := by (first | lia | omega)
    subst this; exact ⟨h, S⟩
  | f + 1, p, k, h, S, e => by
    unfold kas_bin
    have hk : k < n := by (first | lia | omega)
    refine sat_bind _ (sat_mono (fun m hm => ?_) _ (sat_place O h hk S k 0 k (by (first | lia | omega)) (Nat.zero_le _) (Nat.le_refl _) (fun j hj => by (first | lia | omega)) (fun j hj1 hj2 => by (first | lia | omega))))
    exact sat_bin O f _ (k + 1) (h.perm (bubble_perm _ _ _)) (bub_srt O h hk S hm.1 hm.2.1 hm.2.2) (by (first | lia | omega))
theorem sat_sort (O : Ord n lt) (h2 : 2 ≤ n) : sat n lt (kas_sort n) (fun p => Inv n p ∧ Srt lt p n) := by
  unfold kas_sort
  have h0 : Inv n (List.toArray (List.range n)) := by unfold Inv; simp
  refine sat_bind _ (sat_mono (fun r hr => ?_) _ (sat_count O h0 h2))
  obtain ⟨h3, h4, h5, h6⟩ := hr
  by_cases e : r.1 < n
  · rw [if_pos e]
    have : max r.1 1 = r.1 := by (first | lia | omega)
    rw [this]
    exact sat_bin O _ _ _ h5 h6 (by (first | lia | omega))
  · rw [if_neg e]
    have : r.1 = n := by (first | lia | omega)
    rw [this] at h6
    exact ⟨h5, h6⟩
end
end Mine
end
section
open PySem PySem.W PySem.Calls PyProof.Rows
set_option maxHeartbeats 4000000
namespace Mine
section
variable {w : World} {A : Around} {E : Value → Shared → Prop} {s : Shared} {h₀ h : Heap} {t : Nat} {L : Addr} {l : Loc} {M M₁ M₂ Z : Led} {env : Env}
  {tp : Program} {loose : List Str} {mean : ExcName → Option Value} {mg mb : Str → Option Value} {prog : Program} {a : Addr} {n : Nat} {xs vs : List Value} {ds es : List Dat} {d e : Dat} {v y r : Value} {Q : Value → Shared → Prop}

theorem tuple_lt_tree {x y : List Int} {a b : Addr} {xs ys : List Value} {na nb : Nat} {P : PySem.Fin → Shared → Prop} {s : Shared} (hoa : s.heap.get? a = some (tO xs na)) (hob : s.heap.get? b = some (tO ys nb)) (hia : IntsAre xs x) (hib : IntsAre ys y) (hl : x.length = y.length)
    (h : P (.done (.ret (.bool (lexI x y)))) s) : wpAny (model prog w) A (Builtin.«tuple.__lt__» ⟨[.ref a, .ref b], []⟩) P E s := by
  have hTb : s.TypeIs (.ref b) "tuple" := ⟨_, hob, rfl⟩
  show wpAny _ _ (isInstance (.ref b) (.type "tuple") >>= _) _ _ s
  refine wpAny_bind (wpAny_isInstance hTb isSubtype_tuple_tuple ?_)
  simp only [Bool.not_true, Bool.false_eq_true, if_false]
  refine wpAny_bind (wpAny_tupleItemsOf (items := xs.toArray) hoa rfl ?_)
  refine wpAny_bind (wpAny_tupleItemsOf (items := ys.toArray) hob rfl ?_)
  refine wpAny_bind ?_
  refine wpAny_forIn_list _
    (fun rest r s' => r.1 = none ∧ s' = s ∧ ∃ x' y' xs' ys', rest = List.zip xs' ys' ∧ IntsAre xs' x' ∧ IntsAre ys' y' ∧ lexI x' y' = lexI x y ∧ x'.length = y'.length)
    _ ?_ ?_ _ _ ⟨rfl, rfl, x, y, xs, ys, rfl, hia, hib, rfl, hl⟩
  · rintro ⟨u, v⟩ rest r s' ⟨hr, rfl, x', y', xs', ys', hz, hx', hy', hlex, hlen⟩
    cases hx' with
    | nil => simp at hz
    | @cons k1 t1 xs'' x'' hx'' =>
      cases hy' with
      | nil => simp at hz
      | @cons k2 t2 ys'' y'' hy'' =>
        simp only [List.zip_cons_cons, List.cons.injEq, Prod.mk.injEq] at hz
        obtain ⟨⟨rfl, rfl⟩, rfl⟩ := hz
        refine wpAny_bind (wpAny_eqBool_int ?_)
        by_cases hk : k1 = k2
        · subst hk
          simp only [beq_self_eq_true, Bool.not_true, Bool.false_eq_true, if_false]
          refine wpAny_pure ⟨rfl, rfl, x'', y'', xs'', ys'', rfl, hx'', hy'', ?_, by simpa using hlen⟩
          rw [← hlex]; simp [lexI]
        · have e : (k1 == k2) = false := by simpa using hk
          rw [e]
          simp only [Bool.not_false, if_true]
          have hf : lexI x y = decide (k1 < k2) := by rw [← hlex]; simp [lexI, hk]
          rw [hf] at h
          refine wpAny_bind (wpAny_rule (wpAny_bind ?_))
          refine PyProof.Rows.lt_int ?_
          exact wpAny_bind (wpAny_pure (wpAny_pure (wpAny_pure h)))
  · rintro ⟨r1, r2⟩ s' ⟨hr, rfl, x', y', xs', ys', hz, hx', hy', hlex, hlen⟩
    simp only at hr
    subst hr
    have hfin : lexI x y = false := by
      rw [← hlex]
      cases hx' with
      | nil => simp [lexI]
      | cons _ _ _ =>
        cases hy' with
        | nil => simp [lexI]
        | cons _ _ _ => simp at hz
    rw [hfin] at h
    refine wpAny_pure ?_
    have hsz : xs.toArray.size = ys.toArray.size := by simp [hia.length, hib.length, hl]
    have : Builtin.Tuple.tupleCompareSizes .Lt xs.toArray.size ys.toArray.size = .bool false := by
      rw [hsz]; simp [Builtin.Tuple.tupleCompareSizes]
    show P (.done (.ret (Builtin.Tuple.tupleCompareSizes .Lt xs.toArray.size ys.toArray.size))) s'
    rw [this]; exact h
theorem r_ltT {x y : List Int} {a b : Addr} {xs ys : List Value} {na nb : Nat} {s : Shared} (hu : A.units < cLine) (hoa : s.heap.get? a = some (tO xs na)) (hob : s.heap.get? b = some (tO ys nb)) (hia : IntsAre xs x) (hib : IntsAre ys y) (hl : x.length = y.length)
    (k : Q (.bool (lexI x y)) s) : wpAny (model prog w) A (compareOp .Lt (.ref a) (.ref b)) Q E s := by
  show wpAny _ _ (richCompare .Lt (.ref a) (.ref b)) Q E s
  have ha : s.TypeIs (.ref a) "tuple" := ⟨_, hoa, rfl⟩
  have hb : s.TypeIs (.ref b) "tuple" := ⟨_, hob, rfl⟩
  exact wpAny_richCompare_same_room (op := .Lt) ha hb F.slot_tuple_lt
      (wpAny_call_entry F.slot_tuple_lt ha F.entry_tuple_lt (tuple_lt_tree hoa hob hia hib hl ⟨_, rfl, (fun e => nomatch e), k⟩) (F.args_tuple_lt_2 _ _)) hu

theorem items_ints {x : List Int} {xs : List Value} (h : IntsAre xs x) : ItemsAre (PySem.intKind prog w) x xs := by
  induction h with
  | nil => exact .nil
  | cons k t _ ih => exact .cons (intKind_is _ _ _ _) ih
theorem items_strs {x : List Str} {xs : List Value} (h : StrsAre xs x) : ItemsAre (PySem.strKind prog w) x xs := by
  induction h with
  | nil => exact .nil
  | cons k t _ ih => exact .cons (strKind_is _ _ _ _) ih
theorem r_eqBoolT {x y : List Int} {a b : Addr} {xs ys : List Value} {na nb : Nat} {s : Shared} {Q : Bool → Shared → Prop} (hu : A.units < cLine) (hoa : s.heap.get? a = some (tO xs na)) (hob : s.heap.get? b = some (tO ys nb)) (hia : IntsAre xs x) (hib : IntsAre ys y)
    (k : Q (decide (x = y)) s) : wpAny (model prog w) A (eqBool (.ref a) (.ref b)) Q E s :=
  wpAny_eqBool_tuple (knd := PySem.intKind prog w) hu ⟨_, xs.toArray, na, hoa, rfl, rfl, items_ints hia⟩ ⟨_, ys.toArray, nb, hob, rfl, rfl, items_ints hib⟩ k

/-- the order of signatures of one length -/
noncomputable def ltS (a b : Str) : Bool := decide (a.cps.toList < b.cps.toList)
noncomputable def ltSig : Sig → Sig → Bool
  | a :: as, b :: bs => if a = b then ltSig as bs else ltS a b
  | _, _ => false
/-- the order of keys -/
noncomputable def ltKey (a b : Int × List Int) : Bool := if a.1 = b.1 then lexI a.2 b.2 else decide (a.1 < b.1)

theorem ltS_tot {a b : Str} (h : a ≠ b) : ltS a b = true ∨ ltS b a = true := by
  have : a.cps.toList ≠ b.cps.toList := fun e => h (by cases a; cases b; simp only at e; congr 1; exact Array.toList_inj.mp e)
  unfold ltS
  by_cases h1 : a.cps.toList < b.cps.toList
  · exact .inl (decide_eq_true h1)
  · by_cases h2 : b.cps.toList < a.cps.toList
    · exact .inr (decide_eq_true h2)
    · exact absurd (List.le_antisymm (List.not_lt.mp h2) (List.not_lt.mp h1)) this
theorem ltS_asym {a b : Str} (h : ltS a b = true) : ltS b a = false := by
  unfold ltS at *
  exact decide_eq_false (List.lt_asymm (of_decide_eq_true h))
theorem ltS_trans {a b c : Str} (h : ltS a b = true) (h2 : ltS b c = true) : ltS a c = true := by
  unfold ltS at *
  exact decide_eq_true (List.lt_trans (of_decide_eq_true h) (of_decide_eq_true h2))
theorem ltSig_tot : ∀ {a b : Sig}, a.length = b.length → a ≠ b → ltSig a b = true ∨ ltSig b a = true
  | [], [], _, h => absurd rfl h
  | [], _ :: _, h, _ => by simp at h
  | _ :: _, [], h, _ => by simp at h
  | a :: as, b :: bs, hl, h => by
    unfold ltSig
    by_cases e : a = b
    · subst e
      rw [if_pos rfl, if_pos rfl]
      exact ltSig_tot (by simpa using hl) fun q => h (by rw [q])
    · rw [if_neg e, if_neg (Ne.symm e)]; exact ltS_tot e
theorem ltSig_asym : ∀ {a b : Sig}, ltSig a b = true → ltSig b a = false
  | [], [], _ => rfl
  | [], _ :: _, _ => rfl
  | _ :: _, [], _ => rfl
  | a :: as, b :: bs, h => by
    unfold ltSig at *
    by_cases e : a = b
    · subst e
      rw [if_pos rfl] at *
      exact ltSig_asym h
    · rw [if_neg e] at h; rw [if_neg (Ne.symm e)]; exact ltS_asym h
theorem ltSig_trans : ∀ {a b c : Sig}, ltSig a b = true → ltSig b c = true → ltSig a c = true
  | [], _, _, h, _ => by simp [ltSig] at h
  | _ :: _, [], _, h, _ => by simp [ltSig] at h
  | _ :: _, _ :: _, [], _, h => by simp [ltSig] at h
  | a :: as, b :: bs, c :: cs, h1, h2 => by
    unfold ltSig at *
    by_cases e : a = b
    · subst e
      rw [if_pos rfl] at h1
      by_cases e2 : a = c
      · subst e2; rw [if_pos rfl] at *; exact ltSig_trans h1 h2
      · rw [if_neg e2] at *; exact h2
    · rw [if_neg e] at h1
      by_cases e2 : b = c
      · subst e2; rw [if_neg e]; exact h1
      · rw [if_neg e2] at h2
        have h3 := ltS_trans h1 h2
        have e3 : a ≠ c := fun q => by subst q; rw [ltS_asym h1] at h2; cases h2
        rw [if_neg e3]; exact h3
theorem lexI_tot : ∀ {a b : List Int}, a.length = b.length → a ≠ b → lexI a b = true ∨ lexI b a = true
  | [], [], _, h => absurd rfl h
  | [], _ :: _, h, _ => by simp at h
  | _ :: _, [], h, _ => by simp at h
  | a :: as, b :: bs, hl, h => by
    unfold lexI
    by_cases e : a = b
    · subst e
      rw [if_neg (by simp), if_neg (by simp)]
      exact lexI_tot (by simpa using hl) fun q => h (by rw [q])
    · rw [if_pos e, if_pos (Ne.symm e)]; simp; (first | lia | omega)
theorem lexI_asym : ∀ {a b : List Int}, lexI a b = true → lexI b a = false
  | [], [], _ => rfl
  | [], _ :: _, _ => rfl
  | _ :: _, [], _ => rfl
  | a :: as, b :: bs, h => by
    unfold lexI at *
    by_cases e : a = b
    · subst e
      rw [if_neg (by simp)] at *
      exact lexI_asym h
    · rw [if_pos e] at h; rw [if_pos (Ne.symm e)]; simp at *; (first | lia | omega)
theorem lexI_trans : ∀ {a b c : List Int}, lexI a b = true → lexI b c = true → lexI a c = true
  | [], _, _, h, _ => by simp [lexI] at h
  | _ :: _, [], _, h, _ => by simp [lexI] at h
  | _ :: _, _ :: _, [], _, h => by simp [lexI] at h
  | a :: as, b :: bs, c :: cs, h1, h2 => by
    unfold lexI at *
    by_cases e : a = b
    · subst e
      rw [if_neg (by simp)] at h1
      by_cases e2 : a = c
      · subst e2; rw [if_neg (by simp)] at *; exact lexI_trans h1 h2
      · rw [if_pos e2] at *; exact h2
    · rw [if_pos e] at h1
      by_cases e2 : b = c
      · subst e2; rw [if_pos e]; exact h1
      · rw [if_pos e2] at h2
        simp at h1 h2
        rw [if_pos (by (first | lia | omega))]; simp; (first | lia | omega)
theorem ltKey_tot {a b : Int × List Int} (hl : a.2.length = b.2.length) (h : a ≠ b) : ltKey a b = true ∨ ltKey b a = true := by
  unfold ltKey
  by_cases e : a.1 = b.1
  · rw [if_pos e, if_pos e.symm]
    exact lexI_tot hl fun q => h (Prod.ext e q)
  · rw [if_neg e, if_neg (Ne.symm e)]; simp; (first | lia | omega)
theorem ltKey_asym {a b : Int × List Int} (h : ltKey a b = true) : ltKey b a = false := by
  unfold ltKey at *
  by_cases e : a.1 = b.1
  · rw [if_pos e] at h; rw [if_pos e.symm]; exact lexI_asym h
  · rw [if_neg e] at h; rw [if_neg (Ne.symm e)]; simp at *; (first | lia | omega)
theorem ltKey_trans {a b c : Int × List Int} (h1 : ltKey a b = true) (h2 : ltKey b c = true) : ltKey a c = true := by
  unfold ltKey at *
  by_cases e : a.1 = b.1
  · rw [if_pos e] at h1
    by_cases e2 : b.1 = c.1
    · rw [if_pos e2] at h2; rw [if_pos (e.trans e2)]; exact lexI_trans h1 h2
    · rw [if_neg e2] at h2; rw [if_neg (by (first | lia | omega))]; simp at *; (first | lia | omega)
  · rw [if_neg e] at h1
    simp at h1
    by_cases e2 : b.1 = c.1
    · rw [if_neg (by (first | lia | omega))]; simp; (first | lia | omega)
    · rw [if_neg e2] at h2; simp at h2; rw [if_neg (by (first | lia | omega))]; simp; (first | lia | omega)

/-- a sort's output: the items by their places -/
theorem out_sorted {α : Type} [Inhabited α] {xs : List α} {lt : α → α → Bool} {p : Array Nat} (hp : Inv xs.length p) (hs : Srt (fun i j => lt (xs.getD i default) (xs.getD j default)) p xs.length) :
    (p.toList.map fun i => xs.getD i default).Perm xs ∧ (p.toList.map fun i => xs.getD i default).Pairwise (fun a b => lt a b = true) := by
  constructor
  · have : ((List.range xs.length).map fun i => xs.getD i default) = xs := by
      apply List.ext_getElem
      · simp
      · intro i h1 h2; simp at h1; simp [h1]
    have h := hp.map fun i => xs.getD i default
    rw [this] at h; exact h
  · have hsz := hp.size
    rw [List.pairwise_map, List.pairwise_iff_getElem]
    intro i j hi hj hij
    have hi' : i < p.size := by simpa using hi
    have hj' : j < p.size := by simpa using hj
    have := hs i j hij (by (first | lia | omega))
    unfold R at this
    rw [gD hi', gD hj'] at this
    simpa using this
end
end Mine
end
section
open PySem PySem.W PySem.Calls PyProof.Rows
namespace Mine
section
variable {w : World} {A : Around} {E : Value → Shared → Prop} {s : Shared} {h₀ h : Heap} {t : Nat} {L : Addr} {l : Loc} {M M₁ M₂ Z Z' : Led} {env : Env}
  {tp : Program} {loose : List Str} {mean : ExcName → Option Value} {mg mb : Str → Option Value} {prog : Program} {a : Addr} {n : Nat} {xs vs ks : List Value} {ds es : List Dat} {d e : Dat} {v y : Value} {Q : Value → Shared → Prop} {o : Obj}

theorem ord_small {n : Nat} (h : n < 2) {lt : Nat → Nat → Bool} {p : Array Nat} : Srt lt p n := fun i j h1 h2 => by (first | lia | omega)

theorem run_sorted {κ : SortKind} {lt : Nat → Nat → Bool} {s : Shared} {Q : Unit × SortSt → Shared → Prop} (hl : ks.length = vs.length) (h64 : vs.length < 64) (O : Ord vs.length lt)
    (hc : 2 ≤ vs.length → ∀ i j (C : Bool → Shared → Prop), i < vs.length → j < vs.length → C (lt i j) s → wpAny (model prog w) A (keyLt' κ (ks.getD i Value.none) (ks.getD j Value.none)) C (fun _ _ => False) s)
    (k : ∀ r p, Inv vs.length p → Srt lt p vs.length → (arrOf r.2).map (·.2) = List.toArray (p.toList.map fun i => vs.getD i Value.none) → failedOf r.2 = none → Q r s) :
    wpAny (model prog w) A ((if vs.toArray.size < 2 then pure () else sortRuns').run (SortSt.mk' κ (ks.toArray.zip vs.toArray) #[] 7 none)) Q E s := by
  by_cases h2 : 2 ≤ vs.length
  · have hn : ¬ vs.toArray.size < 2 := by rw [List.size_toArray]; (first | lia | omega)
    rw [if_neg hn]
    refine wpAny_mono (kat_run (Q := fun st' s' => s' = s ∧ ∃ p, Inv vs.length p ∧ Srt lt p vs.length ∧ arrOf st' = p.map (kas_item (ks.toArray.zip vs.toArray)) ∧ failedOf st' = none) (G := fun p s' => s' = s ∧ Inv vs.length p ∧ Srt lt p vs.length) hl h2 h64
      (fun p st' s' a1 a2 a3 a4 => ⟨a4.1, p, a4.2.1, a4.2.2, a2, a3⟩) (sat_wp (hc h2) (fun p hp => ⟨rfl, hp.1, hp.2⟩) _ (sat_sort O h2))) ?_ fun _ _ e => e
    rintro r s' ⟨rfl, p, h3, h4, h5, h6⟩
    exact k r p h3 h4 (kat_snds hl h5) h6
  · have hn : vs.toArray.size < 2 := by rw [List.size_toArray]; (first | lia | omega)
    rw [if_pos hn]
    show wpAny _ A (pure ((), SortSt.mk' κ (ks.toArray.zip vs.toArray) #[] 7 none)) Q E s
    refine wpAny_pure (k _ (List.toArray (List.range vs.length)) (by unfold Inv; simp) (ord_small (by (first | lia | omega))) ?_ rfl)
    refine kat_snds hl ?_
    show ks.toArray.zip vs.toArray = _
    have e := kas_range (ks.toArray.zip vs.toArray)
    rw [show (ks.toArray.zip vs.toArray).size = vs.length by simp [hl]] at e
    exact e.symm

theorem St.putL (S : St h₀ L h l (M₁ ++ (a, lO vs n) :: M₂) Z) (xs : List Value) : ∃ n', (h.update a (Obj.mapSeq fun _ => xs.toArray)).get? a = some (lO xs n') ∧ St h₀ L (h.update a (Obj.mapSeq fun _ => xs.toArray)) l (M₁ ++ (a, lO xs n') :: M₂) Z := by
  have hg := S.getM (a := a) (o := lO vs n) (by simp)
  have e := get?_update_seq (c := "list") (xs := vs.toArray) (n := n) hg fun _ => xs.toArray
  exact ⟨_, e, S.upd (Heap.SameBut.update ..) e⟩

theorem sort_plain {κ : SortKind} {lt : Nat → Nat → Bool} {P : PySem.Fin → Shared → Prop} (S : St h₀ L h l (M₁ ++ (a, lO vs n) :: M₂) Z) (h64 : vs.length < 64) (O : Ord vs.length lt)
    (hk : 2 ≤ vs.length → ∀ h' n' t', St h₀ L h' l (M₁ ++ (a, lO [] n') :: M₂) Z → ∀ (Q : SortKind → Shared → Prop) E, Q κ (up s h' t') → wpAny (model prog w) A (keyKind' vs.toArray) Q E (up s h' t'))
    (hc : 2 ≤ vs.length → ∀ h' n' t', St h₀ L h' l (M₁ ++ (a, lO [] n') :: M₂) Z → ∀ i j (C : Bool → Shared → Prop), i < vs.length → j < vs.length → C (lt i j) (up s h' t') → wpAny (model prog w) A (keyLt' κ (vs.getD i Value.none) (vs.getD j Value.none)) C (fun _ _ => False) (up s h' t'))
    (k : ∀ h' n' p t', Inv vs.length p → Srt lt p vs.length → St h₀ L h' l (M₁ ++ (a, lO (p.toList.map fun i => vs.getD i Value.none) n') :: M₂) Z → P (.done (.ret .none)) (up s h' t')) :
    wpAny (model prog w) A (Builtin.«list.sort» ⟨[.ref a], []⟩) P E (up s h t) := by
  have hg := S.getM (a := a) (o := lO vs n) (by simp)
  obtain ⟨e1, ho1, S1⟩ := S.putL []
  rw [list_sort_plain]
  refine wpAny_bind (listItems_at hg rfl ?_)
  refine wpAny_bind (listUpdate_at hg rfl ?_ (by rw [List.size_toArray, sizeLine_eq]; (first | lia | omega)) (Nat.zero_le _))
  refine wpAny_bind (seqEpoch_at ho1 rfl ?_)
  refine wpAny_bind (wpAny_newTuple ?_ (by show vs.length ≤ _; rw [sizeLine_eq]; (first | lia | omega)))
  refine wpAny_bind (wpAny_newList ?_ (Nat.zero_le _))
  refine wpAny_holding ?_
  have S3 : St h₀ L (((h.update a (Obj.mapSeq fun _ => (#[] : Array Value))).push (seqObj "tuple" vs.toArray 0)).push (seqObj "list" #[] 0)) l (M₁ ++ (a, lO [] e1) :: M₂) Z :=
    S1.keep fun b o e => Heap.get?_push_of_some _ (Heap.get?_push_of_some _ e)
  show wpAny (model prog w) A _ P E (up s (((h.update a (Obj.mapSeq fun _ => (#[] : Array Value))).push (seqObj "tuple" vs.toArray 0)).push (seqObj "list" #[] 0)) t)
  generalize ((h.update a (Obj.mapSeq fun _ => (#[] : Array Value))).push (seqObj "tuple" vs.toArray 0)).push (seqObj "list" #[] 0) = h3 at S3
  dsimp only
  have fin : ∀ κ', (2 ≤ vs.length → κ' = κ) → wpAny (model prog w) A (do
      let ((), s) ← (if vs.toArray.size < 2 then pure () else sortRuns').run (SortSt.mk' κ' (vs.toArray.zip vs.toArray) #[] 7 none)
      let sorted := (arrOf s).map (·.2)
      let touched := (← seqEpoch a) != e1
      Builtin.List.listUpdate (.ref a) fun _ => sorted
      if let some e := failedOf s then rule "list.sort.comparison-raised"; throw e
      if touched then rule "list.sort.modified"; raiseError "ValueError" "list modified during sort"
      ret .none) P E (up s h3 t) := by
    intro κ' hκ
    refine wpAny_bind (run_sorted rfl h64 O (fun h2 i j C hi hj q => by rw [hκ h2]; exact hc h2 h3 e1 t S3 i j C hi hj q) fun r p hp hs hout hf => ?_)
    obtain ⟨⟨⟩, st'⟩ := r
    dsimp only at hout hf ⊢
    rw [hout]
    refine wpAny_bind (seqEpoch_at (S3.getM (o := lO [] e1) (by simp)) rfl ?_)
    have hsz : (List.toArray (p.toList.map fun i => vs.getD i Value.none)).size = vs.length := by rw [List.size_toArray, List.length_map, Array.length_toList, hp.size]
    refine wpAny_bind (listUpdate_at (S3.getM (o := lO [] e1) (by simp)) rfl ?_ (Nat.zero_le _) (Nat.le_trans (Nat.le_of_eq hsz) (by rw [sizeLine_eq]; (first | lia | omega))))
    rw [hf]
    simp only [bne_self_eq_false, Bool.false_eq_true, if_false]
    obtain ⟨n5, _, S5⟩ := S3.putL (p.toList.map fun i => vs.getD i Value.none)
    exact wpAny_pure (k _ n5 p t hp hs S5)
  by_cases h2 : 2 ≤ vs.length
  · have hn2 : ¬ vs.toArray.size < 2 := by rw [List.size_toArray]; (first | lia | omega)
    rw [if_neg hn2]
    refine wpAny_bind (hk h2 h3 e1 t S3 _ _ ?_)
    exact fin κ fun _ => rfl
  · have hn2 : vs.toArray.size < 2 := by rw [List.size_toArray]; (first | lia | omega)
    rw [if_pos hn2]
    exact wpAny_bind (wpAny_pure (fin _ fun q => absurd q h2))
end
end Mine
end
section
open PySem PySem.W PySem.Calls PyProof.Rows
set_option maxHeartbeats 4000000
namespace Mine
section
variable {w : World} {A : Around} {E : Value → Shared → Prop} {s : Shared} {h₀ h : Heap} {t : Nat} {L : Addr} {l : Loc} {M M₁ M₂ Z : Led} {env : Env}
  {tp : Program} {loose : List Str} {mean : ExcName → Option Value} {mg mb : Str → Option Value} {prog : Program} {a : Addr} {n : Nat} {xs vs : List Value} {ds es : List Dat} {d e : Dat} {v y r : Value} {Q : Value → Shared → Prop}

/-- one step of a dict's iterator, whatever the keys: an entry's key, or the end -/
theorem view_next {it d : Addr} {i ep : Nat} {od : Obj} {es : Array DictEntry} {s : Shared} {P : PySem.Fin → Shared → Prop} (hit : s.heap.IsKeyIter it d i es.size ep) (hod : s.heap.get? d = some od) (hdd : od.data = .dict es ep)
    (hh : es.size ≤ i → A.handled = none)
    (yes : ∀ (q : i < es.size) h', h'.IsKeyIter it d (i + 1) es.size ep → Heap.SameBut it s.heap h' → P (.done (.ret es[i].key)) { s with heap := h' })
    (no : es.size ≤ i → ∀ h' x o, Heap.ExtBut it s.heap h' → h'.get? x = some o → o.cls = .type "StopIteration" → E (.ref x) { s with heap := h' }) :
    wpAny (model prog w) A (Builtin.«dict_keyiterator.__next__» ⟨[.ref it], []⟩) P E s := by
  obtain ⟨o, ho, hc, hd⟩ := id hit
  have ty := hit.typeIs
  have own : Builtin.Dict_items.ownsTuple "dict_keyiterator" = false := by decide
  have nn : ¬ (Value.ref d == Value.none) = true := Bool.false_ne_true
  have i0 : ¬ (i : Int) < 0 := by (first | lia | omega)
  refine wpAny_bind (wpAny_pure (wpAny_bind (wpAny_bind (wpAny_bind (wpAny_typeNameOfWhole_keyiter ty (wpAny_pure ?_))))))
  refine wpAny_bind (wpAny_fieldsOf ho hd ?_)
  rw [own]
  show wpAny _ _ (if (Value.ref d == Value.none) = true then _ else _) _ _ s
  rw [if_neg nn]
  refine wpAny_bind (wpAny_pure (wpAny_bind (wpAny_dictEntries hod hdd ?_)))
  rw [if_neg (by simp)]
  refine wpAny_bind (wpAny_pure (wpAny_bind (wpAny_dictEpoch hod hdd ?_)))
  rw [if_neg (by simp)]
  refine wpAny_pure ?_
  by_cases q : i < es.size
  · simp only [i0, if_false, Int.toNat_natCast, Array.getElem?_eq_getElem q]
    refine wpAny_bind (wpAny_bind (wpAny_typeNameOfWhole_keyiter ty (wpAny_pure (wpAny_bind (wpAny_isOneOf_keyiter ty ?_)))))
    rw [own]
    show wpAny _ _ (setField (.ref it) 1 (rawInt ((i : Int) + 1)) >>= _) _ _ s
    have now : (s.heap.update it (Obj.mapFields (·.setIfInBounds 1 (rawInt ((i : Int) + 1))))).IsKeyIter it d (i + 1) es.size ep := by
      refine ⟨_, Heap.get?_update_self _ ho (Obj.isFreed_of_fields (Obj.data_mapFields hd _)), (Obj.cls_mapFields ..).trans hc, ?_⟩
      rw [Obj.data_mapFields hd]; simp [rawInt]
    refine wpAny_bind (wpAny_setField ho hd (by simp) (wpAny_bind (wpAny_holding (wpAny_bind ?_))))
    exact wpAny_isOneOf_keyiter (s := { s with heap := s.heap.update it (Obj.mapFields (·.setIfInBounds 1 (rawInt ((i : Int) + 1)))) }) now.typeIs (wpAny_pure (wpAny_pure (yes q _ now (Heap.SameBut.update ..))))
  · have q' : es.size ≤ i := by (first | lia | omega)
    simp only [i0, if_false, Int.toNat_natCast, Array.getElem?_eq_none q']
    refine wpAny_bind (wpAny_bind (wpAny_typeNameOfWhole_keyiter ty (wpAny_pure ?_)))
    rw [own]
    show wpAny _ _ (setField (.ref it) 0 .none >>= _) _ _ s
    refine wpAny_bind (wpAny_setField ho hd (by simp) (wpAny_bind ?_))
    unfold newExc newTuple
    refine wpAny_bind (wpAny_newObj_type (wpAny_bind (m := firstArgMember _ _) (wpAny_of_eq (a := Value.none) (by simp only [firstArgMember]; rfl) (wpAny_newObj_type ?_ (by size_fits)))) (by size_fits))
    unfold raiseNew
    refine wpAny_bind (wpAny_handled ?_)
    rw [hh q']
    exact wpAny_bind (wpAny_pure (wpAny_throw (no q' _ _ _ (((Heap.SameBut.update ..).extBut.push _).push _) (Heap.get?_push_size _ rfl) rfl)))
theorem view_call {it d : Addr} {i ep : Nat} {es : Array DictEntry} {s : Shared} {Q : Option Value → Shared → Prop} (hit : s.heap.IsKeyIter it d i es.size ep)
    (h : wpAny (model prog w) A.in1 (Builtin.«dict_keyiterator.__next__» ⟨[.ref it], []⟩) (fun fin s' => ∃ v, fin = .done (.ret v) ∧ Q (some v) s') (fun x s' => ∃ a o, x = .ref a ∧ s'.heap.get? a = some o ∧ o.cls = .type "StopIteration" ∧ Q none s') s) :
    wpAny (model prog w) A (pyNext (.ref it)) Q E s := by
  unfold pyNext
  have c := wpAny_call_entry F.slot_dict_keyiterator_next hit.typeIs F.entry_dict_keyiterator_next h (F.args_dict_keyiterator_next_1 _)
  refine wpAny_bind (wpAny_attempt (wpAny_mono (wpAny_callSpecial?_slot (name := Str.ofString "__next__") (Q := fun r s' => ∃ v, r = some v ∧ Q (some v) s') hit.typeIs F.slot_dict_keyiterator_next (wpAny_mono c (fun v s' q => ⟨v, rfl, q⟩) fun _ _ e => e)) ?_ ?_))
  · rintro r s' ⟨v, rfl, q⟩; exact wpAny_pure q
  · rintro x s' ⟨a, o, rfl, ha, hc, q⟩
    exact wpAny_bind (wpAny_isInstance (T := "StopIteration") (b := true) ⟨o, ha, hc⟩ isSubtype_stop (wpAny_pure q))

theorem ent_iter {d : Addr} {ep : Nat} {od : Obj} {es : Array DictEntry} {s : Shared} {Q : Value → Shared → Prop} (lo : (d == sysModules) = false) (ho : s.heap.get? d = some od) (hc : od.cls = .type "dict") (hdat : od.data = .dict es ep)
    (k : Q (.ref s.heap.objs.size) { s with heap := s.heap.push { cls := .type "dict_keyiterator", data := .fields #[.ref d, .int 0 0, .int es.size 0, .int ep 0] } }) :
    wpAny (model prog w) A (pyIter (.ref d)) Q E s := by
  have ty : s.TypeIs (.ref d) "dict" := ⟨_, ho, hc⟩
  refine wpAny_pyIter_slot ty F.slot_dict_iter (wpAny_call_entry F.slot_dict_iter ty F.entry_dict_iter ?_ (F.args_dict_iter_1 _))
  refine wpAny_bind (wpAny_bind (wpAny_notOrdered_dict ty (wpAny_pure ?_)))
  show wpAny _ _ (Builtin.Dict.showsAll d >>= _) _ _ s
  unfold Builtin.Dict.showsAll
  rw [lo]
  refine wpAny_bind (wpAny_pure (wpAny_bind (wpAny_dictEntries ho hdat (wpAny_bind (wpAny_dictEpoch ho hdat (wpAny_bind (wpAny_newObj_type ?_)))))))
  exact wpAny_pure ⟨_, rfl, "dict_keyiterator", _, ⟨_, Heap.get?_push_size _ rfl, rfl⟩, F.slot_dict_keyiterator_next.lookup, k⟩

theorem ent_walks {d I : Addr} {ep : Nat} {od : Obj} {es : Array DictEntry} (hh : A.handled = none) (hne : d ≠ I) (hdat : od.data = .dict es ep) :
    Walks prog w A I [I, d] [I] es.size (fun i v => ∃ hi : i < es.size, v = es[i].key) (fun i h => h.IsKeyIter I d i es.size ep ∧ h.get? d = some od) where
  sub := fun b hb => by simp at hb; simp [hb]
  frame := fun _ _ _ st hk => ⟨st.1.at fun o e => hk I (by simp) o e, hk d (by simp) _ st.2⟩
  item := fun i s Q E hi st hQ => by
    refine view_call st.1 (view_next st.1 st.2 hdat (fun q => absurd hi (by (first | lia | omega))) (fun _ h' hit' hs' => ?_) fun q => absurd hi (by (first | lia | omega)))
    exact ⟨_, rfl, hQ _ h' s.toks ⟨hi, rfl⟩ ⟨hit', hs'.extBut _ _ hne st.2⟩ fun b o hb e => hs'.extBut b o (fun h => hb (by simp [h])) e⟩
  done := fun s Q E st hQ => view_call st.1 (view_next st.1 st.2 hdat (fun _ => hh) (fun q => absurd q (by (first | lia | omega))) fun _ h' x o he' hx hc => ⟨x, o, rfl, hx, hc, hQ h' s.toks fun b o hb e => he' b o (fun h => hb (by simp [h])) e⟩)
  self := fun _ _ _ _ st hQ => wpAny_pyIter_keyiter st.1 hQ

theorem ent_src {d : Addr} {ep : Nat} {od : Obj} {es : Array DictEntry} (lo : (d == sysModules) = false) (hc : od.cls = .type "dict") (hdat : od.data = .dict es ep) :
    KdlSrc prog w "dict" d d es.size (fun i v => ∃ hi : i < es.size, v = es[i].key) (fun h => h.get? d = some od) where
  type := fun _ hm => ⟨_, hm, hc⟩
  there := fun _ hm => ⟨Heap.lt_size hm, Heap.lt_size hm⟩
  keep := fun _ _ hm hk => hk d (.inl rfl) _ hm
  notList := by decide
  notTuple := by decide
  hint := fun _ _ _ _ hm hq => kdl_hint_dict ⟨_, hm, hc⟩ hq
  iter := fun _ _ hh hm => ⟨_, _, (fun _ _ hq => ent_iter lo hm hc hdat hq), ent_walks hh (Nat.ne_of_lt (Heap.lt_size hm)) hdat, ⟨⟨_, Heap.get?_push_size _ rfl, rfl, rfl⟩, Heap.get?_push_of_some _ hm⟩⟩
end
end Mine
end
section
open PySem PySem.W PySem.Calls PyProof.Rows
set_option maxHeartbeats 4000000
namespace Mine
section
variable {w : World} {A : Around} {E : Value → Shared → Prop} {s : Shared} {h₀ h : Heap} {t : Nat} {L : Addr} {l : Loc} {M M₁ M₂ Z : Led} {env : Env}
  {tp : Program} {loose : List Str} {mean : ExcName → Option Value} {mg mb : Str → Option Value} {prog : Program} {a : Addr} {n : Nat} {xs vs : List Value} {ds es : List Dat} {d e : Dat} {v y r : Value} {Q : Value → Shared → Prop}

noncomputable abbrev TK (w : World) : HeapKind PG w (List Str) := tupleKind (PySem.strKind PG w)
/-- the dict of signatures: its entries are those of ms, in this order -/
noncomputable def NewIn (w : World) (Z : Led) (od : Obj) (ms : List (Sig × Str)) : Prop := ∃ (es : Array DictEntry) (ep : Nat) (xs : List (Sig × Addr × Value)), od.ExactDict ∧ od.data = .dict es ep ∧ es.toList = xs.map (entryOfKey (TK w)) ∧ (xs.map (·.1)).Nodup ∧ xs.map (·.1) = ms.map (·.1) ∧
  (∀ x ∈ xs, DatIn Z (.ref x.2.1) (dSig x.1)) ∧ ∀ (i : Nat) (h1 : i < xs.length) (h2 : i < ms.length), DatIn Z xs[i].2.2 (.str ms[i].2)
theorem NewIn.mono {Z Z' : Led} {od : Obj} {ms : List (Sig × Str)} (N : NewIn w Z od ms) (hs : Sub Z Z') : NewIn w Z' od ms := by
  obtain ⟨es, ep, xs, a, b, c, d, e, f, g⟩ := N
  exact ⟨es, ep, xs, a, b, c, d, e, fun x hx => (f x hx).mono hs, fun i h1 h2 => (g i h1 h2).mono hs⟩
theorem NewIn.nodup {od : Obj} {ms : List (Sig × Str)} (N : NewIn w Z od ms) : (ms.map (·.1)).Nodup := by
  obtain ⟨es, ep, xs, a, b, c, d, e, f, g⟩ := N
  rw [← e]; exact d
theorem key_of {sg : Sig} {W : Led} (S : St h₀ L h l M Z) (hv : DatIn W (.ref a) (dSig sg)) (hs : Sub W (M ++ Z)) : (TK w).is h sg a := by
  obtain ⟨b, vs, n, e, hm, hd⟩ := d_tup hv
  cases e
  exact ⟨_, vs.toArray, n, S.get (hs _ hm), rfl, rfl, items_strs (strs_of hd)⟩
theorem NewIn.at {od : Obj} {ms : List (Sig × Str)} {dd : Addr} (N : NewIn w Z od ms) (S : St h₀ L h l M Z) (hm : (dd, od) ∈ M ++ Z) :
    ∃ (xs : List (Sig × Addr × Value)), h.DictOfH (TK w) dd xs ∧ (xs.map (·.1)).Nodup ∧ xs.map (·.1) = ms.map (·.1) ∧ (∀ x ∈ xs, DatIn Z (.ref x.2.1) (dSig x.1)) ∧ ∀ (i : Nat) (h1 : i < xs.length) (h2 : i < ms.length), DatIn Z xs[i].2.2 (.str ms[i].2) := by
  obtain ⟨es, ep, xs, a, b, c, d, e, f, g⟩ := N
  exact ⟨xs, ⟨od, es, ep, S.get hm, a, b, c, fun x hx => key_of S (f x hx) (subZ _ _), d⟩, d, e, f, g⟩
theorem NewIn.empty {o : Obj} {K : Type} [DecidableEq K] {knd : KeyKind PG w K} (hd : o.IsDictOf knd []) : NewIn w Z o [] := by
  obtain ⟨es, ep, hc, hdat, _, hp, _⟩ := hd
  have he : es.toList = [] := List.length_eq_zero_iff.mp hp.length
  exact ⟨es, ep, [], hc, hdat, he, List.nodup_nil, rfl, fun x hx => by simp at hx, fun i h1 h2 => by simp at h1⟩
theorem stored_set {xs : List (Sig × Addr × Value)} {ms : List (Sig × Str)} {sg : Sig} {f : Str} {a : Addr} {v : Value} (nd : (xs.map (·.1)).Nodup) (hk : xs.map (·.1) = ms.map (·.1)) (hv : DatIn Z v (.str f)) (ha : DatIn Z (.ref a) (dSig sg))
    (h1 : ∀ x ∈ xs, DatIn Z (.ref x.2.1) (dSig x.1)) (h2 : ∀ (i : Nat) (h1 : i < xs.length) (h2 : i < ms.length), DatIn Z xs[i].2.2 (.str ms[i].2)) :
    ((storedH xs sg a v).map (·.1)).Nodup → ((storedH xs sg a v).map (·.1) = (setM ms sg f).map (·.1)) ∧ (∀ x ∈ storedH xs sg a v, DatIn Z (.ref x.2.1) (dSig x.1)) ∧
      ∀ (i : Nat) (h1 : i < (storedH xs sg a v).length) (h2 : i < (setM ms sg f).length), DatIn Z (storedH xs sg a v)[i].2.2 (.str (setM ms sg f)[i].2) := by
  intro nd'
  have hlen : xs.length = ms.length := by have := congrArg List.length hk; simpa using this
  have hki : ∀ i (h1 : i < xs.length) (h2 : i < ms.length), xs[i].1 = ms[i].1 := fun i h1 h2 => by
    have : (xs.map (·.1))[i]? = (ms.map (·.1))[i]? := by rw [hk]
    simpa [h1, h2] using this
  cases q : atKey xs sg with
  | none =>
    have hno : ∀ k (hk : k < ms.length), ms[k].1 ≠ sg := by
      intro k hk' e
      have hx : xs[k]? = some (sg, xs[k].2) := by
        rw [List.getElem?_eq_getElem (by (first | lia | omega))]
        congr 1
        exact Prod.ext ((hki k (by (first | lia | omega)) hk').trans e) rfl
      rw [atKey_of_get nd hx] at q; cases q
    have eS : storedH xs sg a v = xs ++ [(sg, a, v)] := storedH_new q a v
    have eM : setM ms sg f = ms ++ [(sg, f)] := setM_none hno
    simp only [eS, eM]
    refine ⟨by rw [List.map_append, List.map_append, hk]; rfl, fun x hx => ?_, fun i i1 i2 => ?_⟩
    · rcases List.mem_append.mp hx with hx | hx
      · exact h1 x hx
      · rw [List.mem_singleton.mp hx]; exact ha
    · by_cases hi : i < xs.length
      · simp only [List.getElem_append_left hi, List.getElem_append_left (show i < ms.length by (first | lia | omega))]
        exact h2 i hi (by (first | lia | omega))
      · have : i = xs.length := by simp at i1; (first | lia | omega)
        subst this
        simp [hlen]; exact hv
  | some p =>
    have eS : storedH xs sg a v = xs.map (putAt sg v) := storedH_old q a v
    obtain ⟨i, hi, ei⟩ : ∃ i, ∃ (hi : i < xs.length), xs[i].1 = sg := by
      unfold atKey at q
      obtain ⟨x, hx, _⟩ := Option.map_eq_some_iff.mp q
      have hmem := List.mem_of_find?_eq_some hx
      have hp := List.find?_some hx
      obtain ⟨i, hi, rfl⟩ := List.getElem_of_mem hmem
      exact ⟨i, hi, by simpa using hp⟩
    have uniq : ∀ j (hj : j < xs.length), xs[j].1 = sg → j = i := fun j hj e => by
      have h3 := (List.getElem_inj (xs := xs.map (·.1)) (h₀ := by simpa using hj) (h₁ := by simpa using hi) nd).mp (by simp [e, ei])
      exact h3
    have eM : setM ms sg f = ms.set i (sg, f) := setM_hit i (by (first | lia | omega)) (fun k hk' hki' e => by
      have := uniq k (by (first | lia | omega)) ((hki k (by (first | lia | omega)) hk').trans e); (first | lia | omega)) ((hki i hi (by (first | lia | omega))).symm.trans ei)
    have keyP : ∀ x : Sig × Addr × Value, (putAt sg v x).1 = x.1 ∧ (putAt sg v x).2.1 = x.2.1 := fun x => by unfold putAt; split <;> exact ⟨rfl, rfl⟩
    simp only [eS, eM]
    refine ⟨?_, fun x hx => ?_, fun j j1 j2 => ?_⟩
    · rw [List.map_map, List.map_set]
      have : (fun x : Sig × Addr × Value => x.1) ∘ putAt sg v = fun x => x.1 := by funext x; exact (keyP x).1
      rw [this, hk]
      apply List.ext_getElem
      · simp
      · intro j j1 j2
        simp only [List.getElem_set, List.getElem_map]
        split
        · rename_i e; subst e; rw [← ei]; exact (hki i hi (by (first | lia | omega))).symm
        · rfl
    · obtain ⟨y, hy, rfl⟩ := List.mem_map.mp hx
      rw [(keyP y).1, (keyP y).2]; exact h1 y hy
    · have j1' : j < xs.length := by simpa using j1
      simp only [List.getElem_map, List.getElem_set]
      by_cases e : i = j
      · subst e
        rw [if_pos rfl]
        unfold putAt; rw [if_pos ei]; exact hv
      · rw [if_neg e]
        unfold putAt
        rw [if_neg fun q => e (uniq j j1' q).symm]
        exact h2 j j1' (by (first | lia | omega))
end
end Mine
end
section
open PySem PySem.W PySem.Calls PyProof.Rows
set_option maxHeartbeats 4000000
namespace Mine
section
variable {w : World} {A : Around} {E : Value → Shared → Prop} {s : Shared} {h₀ h : Heap} {t : Nat} {L : Addr} {l : Loc} {M M₁ M₂ Z : Led} {env : Env}
  {tp : Program} {loose : List Str} {mean : ExcName → Option Value} {mg mb : Str → Option Value} {prog : Program} {a : Addr} {n : Nat} {xs vs : List Value} {ds es : List Dat} {d e : Dat} {v y r : Value} {Q : Value → Shared → Prop}

theorem r_newSet {dd : Addr} {od : Obj} {sg : Sig} {f : Str} {ms : List (Sig × Str)} {Q : Unit → Shared → Prop} (S : St h₀ L h l (M₁ ++ (dd, od) :: M₂) Z) (N : NewIn w Z od ms) (hu : A.units + 1 < cLine) (hv : DatIn Z v (dSig sg)) (hy : DatIn Z y (.str f)) (hz : ms.length ≤ 1000)
    (k : ∀ h' t' od', St h₀ L h' l (M₁ ++ (dd, od') :: M₂) Z → NewIn w Z od' (setM ms sg f) → Q () (up s h' t')) : wpAny (model PG w) A (setItem (.ref dd) v y) Q E (up s h t) := by
  obtain ⟨xs, hD, nd, hk, h1, h2⟩ := N.at (dd := dd) S (List.mem_append.mpr (.inl (by simp)))
  obtain ⟨a, vs, n, rfl, _, _⟩ := d_tup hv
  have hlen : xs.length = ms.length := by have := congrArg List.length hk; simpa using this
  refine wpAny_setItem_heap (s := up s h t) (knd := TK w) (xs := xs) (tupleKind_room_in1 hu) (key_of S hv (subZ _ _)) hD (fun h' hD' hs => ?_) (by rw [sizeLine_eq]; omega)
  obtain ⟨o', es, ep, ho, hc, hd, he, his, hn⟩ := hD'
  obtain ⟨s1, s2, s3⟩ := stored_set (ms := ms) (sg := sg) (f := f) nd hk hy hv h1 h2 hn
  exact k h' _ o' (S.upd hs ho) ⟨es, ep, _, hc, hd, he, hn, s1, s2, s3⟩

theorem x_newGet {dd : Addr} {od : Obj} {sg : Sig} {f : Str} {ms : List (Sig × Str)} {value slice : Expr} (S : St h₀ L h l M Z) (hm : (dd, od) ∈ M ++ Z) (N : NewIn w Z od ms) (hu : A.units + 1 < cLine) (hv : DatIn Z v (dSig sg)) (hmem : (sg, f) ∈ ms)
    (k : ∀ x t', DatIn Z x (.str f) → Q x (up s h t'))
    (hs : ∀ a, subscripted slice false (.ref dd) (.ref a) = operate [.ref dd, .ref a] (getItem (.ref dd) (.ref a)) := by intro _; with_unfolding_all rfl) : wpAny (model PG w) A (subscriptTail value slice (.ref dd) v) Q E (up s h t) := by
  obtain ⟨xs, hD, nd, hk, h1, h2⟩ := N.at S hm
  obtain ⟨a, vs, n, rfl, _, _⟩ := d_tup hv
  have hlen : xs.length = ms.length := by have := congrArg List.length hk; simpa using this
  obtain ⟨i, hi, ei⟩ := List.getElem_of_mem hmem
  have hx : xs[i]? = some (sg, xs[i].2) := by
    rw [List.getElem?_eq_getElem (by omega)]
    congr 1
    have : (xs.map (·.1))[i]? = (ms.map (·.1))[i]? := by rw [hk]
    have e2 : xs[i].1 = ms[i].1 := by simpa [hi, show i < xs.length by omega] using this
    exact Prod.ext (e2.trans (by rw [ei])) rfl
  have h3 := h2 i (by omega) hi
  rw [ei] at h3
  exact tail_any hD.typeIs slot_dict_getitem.lookup (wpAny_getItem_heap (s := up s h t) (knd := TK w) (tupleKind_room_in1 hu) (key_of S hv (subZ _ _)) hD (atKey_of_get nd hx) (k _ _ h3)) (hs a)

theorem ord_list {α : Type} [Inhabited α] {xs : List α} {lt : α → α → Bool} (nd : xs.Nodup) (tot : ∀ a ∈ xs, ∀ b ∈ xs, a ≠ b → lt a b = true ∨ lt b a = true) (asym : ∀ a b, lt a b = true → lt b a = false) (trans : ∀ a b c, lt a b = true → lt b c = true → lt a c = true) :
    Ord xs.length (fun i j => lt (xs.getD i default) (xs.getD j default)) where
  tot i j hi hj hne := by
    have e : ∀ k (hk : k < xs.length), xs.getD k default = xs[k] := fun k hk => by simp [hk]
    rw [e i hi, e j hj]
    exact tot _ (List.getElem_mem hi) _ (List.getElem_mem hj) fun q => hne ((List.getElem_inj nd).mp q)
  asym i j _ _ h := asym _ _ h
  trans i j k _ _ _ h1 h2 := trans _ _ _ h1 h2

theorem tups_of {W : Led} {sgs : List Sig} (S : St h₀ L h l M Z) (hs : Sub W (M ++ Z)) (hd : DatAll W vs (sgs.map dSig)) (hne : ∀ sg ∈ sgs, 0 < sg.length) : ∃ fs, KatTups h vs fs ∧ fs.length = vs.length ∧ ∀ v ∈ fs, ∃ x t, v = .str x t := by
  induction sgs generalizing vs with
  | nil => cases hd; exact ⟨[], .nil, rfl, by simp⟩
  | cons sg sgs ih =>
    cases hd with
    | cons h1 h2 =>
      obtain ⟨fs, k1, k2, k3⟩ := ih h2 fun x hx => hne x (.tail _ hx)
      obtain ⟨a, us, n, rfl, hm, hu⟩ := d_tup h1
      have := hne sg (.head _)
      obtain ⟨hl, hd0⟩ := d_get hu (k := 0) (by simpa using this)
      obtain ⟨x, rest, rfl⟩ : ∃ x rest, sg = x :: rest := by cases sg with | nil => simp at this | cons x r => exact ⟨x, r, rfl⟩
      obtain ⟨tk, e⟩ := d_str (x := x) (by simpa using hd0)
      refine ⟨us[0] :: fs, .cons (S.get (hs _ hm)) rfl rfl (by simp [hl]) k1, by simp [k2], fun v hv => ?_⟩
      rcases List.mem_cons.mp hv with rfl | hv
      · exact ⟨x, tk, e⟩
      · exact k3 v hv
theorem kind_sigs {W : Led} {sgs : List Sig} {Q : SortKind → Shared → Prop} (S : St h₀ L h l M Z) (hs : Sub W (M ++ Z)) (hd : DatAll W vs (sgs.map dSig)) (hne : ∀ sg ∈ sgs, 0 < sg.length) (h2 : 2 ≤ vs.length) (k : Q (tuples' true) (up s h t)) :
    wpAny (model prog w) A (keyKind' vs.toArray) Q E (up s h t) := by
  obtain ⟨fs, k1, k2, k3⟩ := tups_of S hs hd hne
  refine kat_kind (s := up s h t) (T := .type "str") k1 (by omega) (fun v hv => ?_) (by decide) k
  obtain ⟨x, tk, rfl⟩ := k3 v hv
  exact Looks.of_pure rfl

theorem lex_sigs {b fin : Bool} {s : Shared} {Q : Bool → Shared → Prop} : ∀ {x y : List Str} {xs ys : List Value} (i : Nat), StrsAre xs x → StrsAre ys y → x.length = y.length → (b = true ∨ 0 < i) → (x = y → Q fin s) → (x ≠ y → Q (ltSig x y) s) →
    KatLex prog w A b fin Q (xs.zip ys) i s
  | [], [], _, _, i, .nil, .nil, _, _, h1, _ => kat_nil (h1 rfl)
  | [], _ :: _, _, _, _, _, _, h, _, _, _ => by simp at h
  | _ :: _, [], _, _, _, _, _, h, _, _, _ => by simp at h
  | x :: x', y :: y', _, _, i, .cons _ t hx, .cons _ u hy, hl, hb, h1, h2 => by
    refine kat_cons ?_
    refine eqBool_str ?_
    by_cases e : x = y
    · subst e
      have e1 : (x == x) = true := by simp
      rw [e1]
      refine kat_yes (lex_sigs (i + 1) hx hy (by simpa using hl) (.inr (by omega)) (fun q => h1 (by rw [q])) fun q => ?_)
      have := h2 (fun q' => q (by injection q'))
      rwa [ltSig, if_pos rfl] at this
    · have e1 : (x == y) = false := by simpa using e
      rw [e1]
      have := h2 (fun q' => e (by injection q'))
      rw [ltSig, if_neg e, ltS] at this
      refine kat_no ?_
      by_cases hi : (b && i == 0) = true
      · rw [hi]; exact oneLt_str this
      · have : (b && i == 0) = false := by simpa using hi
        rw [this]
        refine kat_one _ _ (PyProof.Rows.lt_str ?_)
        show Q _ s
        assumption
end
end Mine
end
section
open PySem PySem.W PySem.Calls PyProof.Rows
set_option maxHeartbeats 4000000
namespace Mine
section
variable {w : World} {A : Around} {E : Value → Shared → Prop} {s : Shared} {h₀ h : Heap} {t : Nat} {L : Addr} {l : Loc} {M M₁ M₂ Z : Led} {env : Env}
  {tp : Program} {loose : List Str} {mean : ExcName → Option Value} {mg mb : Str → Option Value} {prog : Program} {a : Addr} {n : Nat} {xs vs : List Value} {ds es : List Dat} {d e : Dat} {v y r : Value} {Q : Value → Shared → Prop}

theorem sig_at {W : Led} {sgs : List Sig} (S : St h₀ L h l M Z) (hs : Sub W (M ++ Z)) (hd : DatAll W vs (sgs.map dSig)) (i : Nat) (hi : i < sgs.length) : ∃ a us n, vs.getD i Value.none = .ref a ∧ h.get? a = some (tO us n) ∧ StrsAre us sgs[i] := by
  have hl := hd.length
  obtain ⟨hv, hx⟩ := d_get hd (k := i) (by simpa using hi)
  have hx' : DatIn W vs[i] (dSig sgs[i]) := by simpa using hx
  obtain ⟨a, us, n, e, hm, hu⟩ := d_tup hx'
  exact ⟨a, us, n, by simp [hv, e], S.get (hs _ hm), strs_of hu⟩

theorem d_pick {W : Led} {vs : List Value} {ds : List Dat} (hd : DatAll W vs ds) (is : List Nat) (h : ∀ i ∈ is, i < ds.length) : DatAll W (is.map fun i => vs.getD i Value.none) (is.map fun i => ds.getD i .none) := by
  induction is with
  | nil => exact .nil
  | cons i is ih =>
    obtain ⟨hv, hx⟩ := d_get hd (k := i) (h i (.head _))
    refine .cons ?_ (ih fun j hj => h j (.tail _ hj))
    have hi := h i (.head _)
    simpa [hv, hi] using hx

theorem r_sortSigs {D : Addr} {sgs : List Sig} {c : Nat} (S : St h₀ L h l (M₁ ++ (D, lO vs n) :: M₂) Z) (hd : DatAll Z vs (sgs.map dSig)) (h64 : sgs.length < 64) (nd : sgs.Nodup) (hc : ∀ sg ∈ sgs, sg.length = c) (hc0 : 0 < c)
    (k : ∀ h' t' vs' n' (sgs' : List Sig), sgs'.Perm sgs → sgs'.Pairwise (fun a b => ltSig a b = true) → DatAll Z vs' (sgs'.map dSig) → St h₀ L h' l (M₁ ++ (D, lO vs' n') :: M₂) Z → Q .none (up s h' t')) :
    wpAny (model prog w) A (call (.builtin "list.sort") [.ref D]) Q E (up s h t) := by
  have hvl : vs.length = sgs.length := by have := hd.length; simpa using this
  have hg := S.getM (a := D) (o := lO vs n) (by simp)
  refine wpAny_call_entry slot_list_sort ⟨_, hg, rfl⟩ entry_list_sort ?_ (args_list_sort _)
  have O : Ord vs.length (fun i j => ltSig (sgs.getD i default) (sgs.getD j default)) := by
    rw [hvl]
    exact ord_list nd (fun a ha b hb h => ltSig_tot ((hc a ha).trans (hc b hb).symm) h) (fun a b => ltSig_asym) fun a b c => ltSig_trans
  refine sort_plain (κ := tuples' true) S (by (first | lia | omega)) O (fun h2 h' n' t' S' Q E q => ?_) (fun h2 h' n' t' S' i j C hi hj q => ?_) (fun h' n' p t' hp hs S' => ?_)
  · exact kind_sigs S' (subZ _ _) hd (fun sg hsg => by rw [hc sg hsg]; exact hc0) h2 q
  · obtain ⟨a, us, na, e1, e2, e3⟩ := sig_at S' (subZ _ _) hd i (by (first | lia | omega))
    obtain ⟨b, us', nb, f1, f2, f3⟩ := sig_at S' (subZ _ _) hd j (by (first | lia | omega))
    rw [e1, f1]
    have hij : (sgs[i]'(by (first | lia | omega))).length = (sgs[j]'(by (first | lia | omega))).length := (hc _ (List.getElem_mem _)).trans (hc _ (List.getElem_mem _)).symm
    have eq1 : sgs.getD i default = sgs[i]'(by (first | lia | omega)) := by simp [show i < sgs.length by (first | lia | omega)]
    have eq2 : sgs.getD j default = sgs[j]'(by (first | lia | omega)) := by simp [show j < sgs.length by (first | lia | omega)]
    rw [eq1, eq2] at q
    refine kat_lt (s := up s h' t') (xs := us.toArray) (ys := us'.toArray) e2 rfl f2 rfl ?_
    refine lex_sigs 0 e3 f3 hij (.inl rfl) (fun q' => ?_) fun _ => q
    have hl1 := e3.length
    have hl2 := f3.length
    have : decide (us.toArray.size < us'.toArray.size) = false := by simp; (first | lia | omega)
    rw [this]
    rw [q'] at q
    have : ltSig (sgs[j]'(by (first | lia | omega))) (sgs[j]'(by (first | lia | omega))) = false := by
      rw [← Bool.not_eq_true]
      intro hh
      have := ltSig_asym hh
      rw [hh] at this; cases this
    rwa [this] at q
  · rw [hvl] at hp hs
    obtain ⟨o1, o2⟩ := out_sorted hp hs
    refine ⟨_, rfl, k _ _ _ _ (p.toList.map fun i => sgs.getD i default) o1 o2 ?_ S'⟩
    have hlt : ∀ i ∈ p.toList, i < sgs.length := fun i hi => by
      have := hp.mem_iff.mp hi
      simpa using this
    have := d_pick hd p.toList fun i hi => by simpa using hlt i hi
    rw [List.map_map]
    have e : (p.toList.map fun i => (sgs.map dSig).getD i Dat.none) = p.toList.map (dSig ∘ fun i => sgs.getD i default) := by
      refine List.map_congr_left fun i hi => ?_
      have := hlt i hi
      simp [this]
    rw [← e]; exact this

/-- sorted over a list -/
theorem r_sortedL {ax : Addr} (S : St h₀ L h l M Z) (hm : (ax, lO vs n) ∈ M ++ Z) (h64 : vs.length < 64)
    (k : ∀ h' D, St h₀ L h' l ((D, lO vs 0) :: M) Z → wpAny (model prog w) A.in1 (call (.builtin "list.sort") [.ref D]) (fun _ s' => Q (.ref D) s') E (up s h' t)) :
    wpAny (model prog w) A (call (.builtin "sorted") [.ref ax]) Q E (up s h t) := by
  refine Calls.call_function_entry kind_sorted plain_sorted entry_sorted (args_sorted1 _) ?_
  unfold Builtin.«sorted»
  refine wpAny_bind (m := checkCount "sorted" 1 1 _) (wpAny_pure ?_)
  refine wpAny_bind (collect_list ⟨_, S.get hm, rfl, n, rfl⟩ ?_ (by rw [sizeLine_eq]; (first | lia | omega)))
  refine wpAny_bind (wpAny_newList ?_ (by rw [sizeLine_eq]; (first | lia | omega)))
  have keep : ∀ b o, h.get? b = some o → ((h.push (seqObj "list" #[] 0)).update h.objs.size (Obj.mapSeq (· ++ vs.toArray))).get? b = some o := fun b o q => by
    have hlt : b < h.objs.size := Heap.lt_size q
    rw [Heap.get?_update_ne _ _ _ _ (Nat.ne_of_lt hlt), Heap.get?_push_ne _ _ _ (Nat.ne_of_lt hlt)]
    exact q
  have S2 := (S.keep keep).push (lO vs 0)
  exact wpAny_bind (wpAny_holding (wpAny_mono (k _ _ S2) (fun _ s' x => wpAny_pure ⟨_, rfl, x⟩) fun _ _ e => e))
/-- sorted over the dict of signatures -/
theorem r_sortedN {dd : Addr} {od : Obj} {ms : List (Sig × Str)} (S : St h₀ L h l M Z) (hh : A.handled = none) (hm : (dd, od) ∈ M ++ Z) (lo : (dd == sysModules) = false) (N : NewIn w Z od ms) (h64 : ms.length < 64)
    (k : ∀ h' t' D vs, DatAll Z vs ((ms.map (·.1)).map dSig) → St h₀ L h' l ((D, lO vs 0) :: M) Z → wpAny (model PG w) A.in1 (call (.builtin "list.sort") [.ref D]) (fun _ s' => Q (.ref D) s') E (up s h' t')) :
    wpAny (model PG w) A (call (.builtin "sorted") [.ref dd]) Q E (up s h t) := by
  obtain ⟨es, ep, xs, hc, hdat, he, nd, hk, h1, h2⟩ := N
  obtain ⟨m, Fm, hm'⟩ := S.fr
  have hlen : xs.length = ms.length := by have := congrArg List.length hk; simpa using this
  have hes : es.size = ms.length := by rw [← hlen]; have := congrArg List.length he; simpa using this
  refine kdu_sorted (s := up s h t) (ent_src lo hc.1 hdat) hh Fm S.N (S.get hm) (by rw [sizeLine_eq]; (first | lia | omega)) fun D h' tk vs F' N' lt hl hv => ?_
  refine k h' tk D vs (d_all (by simp; (first | lia | omega)) fun i i1 i2 => ?_) (S.next F' hm' N' lt)
  obtain ⟨hi, e⟩ := hv i vs[i] (by simp [i1])
  rw [e]
  have hx : i < xs.length := by (first | lia | omega)
  have ek : es[i] = entryOfKey (TK w) xs[i] := by
    have := entry_at he i
    rw [Array.getElem?_eq_getElem hi, List.getElem?_eq_getElem hx] at this
    exact Option.some.inj this
  rw [ek]
  have : xs[i].1 = (ms.map (·.1))[i]'(by simp; (first | lia | omega)) := by simp only [← hk]; simp
  have h3 := h1 xs[i] (List.getElem_mem hx)
  rw [this] at h3
  simpa [entryOfKey] using h3
end
end Mine
end
section
open PySem PySem.W PySem.Calls PyProof.Rows
set_option maxHeartbeats 4000000
namespace Mine
section
variable {w : World} {A : Around} {E : Value → Shared → Prop} {s : Shared} {h₀ h : Heap} {t : Nat} {L : Addr} {l : Loc} {M M₁ M₂ Z : Led} {env : Env}
  {tp : Program} {loose : List Str} {mean : ExcName → Option Value} {mg mb : Str → Option Value} {prog : Program} {a : Addr} {n : Nat} {xs vs : List Value} {ds es : List Dat} {d e : Dat} {v y r : Value} {Q : Value → Shared → Prop}

theorem MethodCallKw_ {o : Expr} {name : Str} {apos pos : Pos} {args : List Expr} {kws : List Keyword} {pl : Sem Bool} {M' : Model} {s : Shared}
    (h : wpAny M' A (eval o env) (fun ov s₁ => wpAny M' A (getMethod ov name pl) (fun fx s₂ => wpAny M' A (callWith pos fx.1 fx.2 (backTo pos (starEach args env)) (backToKw pos (keywordEach kws env))) Q E s₂) E s₁) E s)
    (he : eval (.Call (.Attribute o name apos) args kws pos) env = (do
      let ov ← eval o env
      standAt apos.atName
      let (f, first) ← holding [ov] (getMethod ov name pl)
      callWith pos f first (backTo pos (starEach args env)) (backToKw pos (keywordEach kws env))) := by rfl) :
    wpAny M' A (eval (.Call (.Attribute o name apos) args kws pos) env) Q E s := by
  have at_ : ∀ ov s₁, wpAny M' A (getMethod ov name pl) (fun fx s₂ => wpAny M' A (callWith pos fx.1 fx.2 (backTo pos (starEach args env)) (backToKw pos (keywordEach kws env))) Q E s₂) E s₁ →
      wpAny M' A (standAt apos.atName >>= fun _ => holding [ov] (getMethod ov name pl) >>= fun fx => callWith pos fx.1 fx.2 (backTo pos (starEach args env)) (backToKw pos (keywordEach kws env))) Q E s₁ :=
    fun ov s₁ g => wpAny_bind (wpAny_standAt (wpAny_bind (wpAny_holding g)))
  exact he ▸ wpAny_bind (wpAny_mono h at_ fun _ _ x => x)
theorem cw_kw1 {M' : Model} {s : Shared} {pos : Pos} {id : String} {first : List Value} {nm : Str} {value : Expr} {kp : Pos}
    (h : wpAny M' A (eval value env) (fun v s₁ => wpAny M' A (call (.builtin id) first [(nm, v)]) Q E s₁) E s) :
    wpAny M' A (callWith pos (.builtin id) first (backTo pos (starEach [] env)) (backToKw pos (keywordEach [⟨some nm, value, kp⟩] env))) Q E s := by
  refine callWith_builtin_kwB (by rfl) (by rfl) ?_
  unfold evalArgs
  refine wpAny_bind (wpAny_pure ?_)
  first | refine wpAny_holding ?_ | (refine wpAny_bind (wpAny_pure ?_); dsimp only; refine wpAny_holding ?_)
  rw [if_pos (by rfl)]
  refine wpAny_bind (kws_cons (wpAny_mono h (fun v s₁ h₁ => kws_nil ?_) fun _ _ x => x))
  refine wpAny_bind (wpAny_pure (wpAny_pure ?_))
  show wpAny M' A (call (.builtin id) (first ++ []) [(nm, v)]) Q E s₁
  rw [List.append_nil]; exact h₁

theorem sort_keyed {κ : SortKind} {lt : Nat → Nat → Bool} {f : Value} {kds : List Dat} {P : PySem.Fin → Shared → Prop} (S : St h₀ L h l (M₁ ++ (a, lO vs n) :: M₂) Z) (h64 : vs.length < 64) (O : Ord vs.length lt) (hkl : kds.length = vs.length)
    (hkey : ∀ i (hi : i < vs.length) h' t' M', St h₀ L h' l M' Z → ∀ Q : Value → Shared → Prop, (∀ h'' t'' x, St h₀ L h'' l M' Z → DatIn Z x (kds.getD i .none) → Q x (up s h'' t'')) → wpAny (model prog w) A (call f [vs[i]]) Q (fun _ _ => False) (up s h' t'))
    (hk : 2 ≤ vs.length → ∀ h' t' M' ks, St h₀ L h' l M' Z → DatAll Z ks kds → ∀ (Q : SortKind → Shared → Prop) E, Q κ (up s h' t') → wpAny (model prog w) A (keyKind' ks.toArray) Q E (up s h' t'))
    (hc : 2 ≤ vs.length → ∀ h' t' M' ks, St h₀ L h' l M' Z → DatAll Z ks kds → ∀ i j (C : Bool → Shared → Prop), i < vs.length → j < vs.length → C (lt i j) (up s h' t') → wpAny (model prog w) A (keyLt' κ (ks.getD i Value.none) (ks.getD j Value.none)) C (fun _ _ => False) (up s h' t'))
    (k : ∀ h' n' p t', Inv vs.length p → Srt lt p vs.length → St h₀ L h' l (M₁ ++ (a, lO (p.toList.map fun i => vs.getD i Value.none) n') :: M₂) Z → P (.done (.ret .none)) (up s h' t')) :
    wpAny (model prog w) A (ksk_tree a f false) P E (up s h t) := by
  have hg := S.getM (a := a) (o := lO vs n) (by simp)
  obtain ⟨e1, ho1, S1⟩ := S.putL []
  unfold ksk_tree
  refine wpAny_bind (listItems_at hg rfl ?_)
  refine wpAny_bind (listUpdate_at hg rfl ?_ (by rw [List.size_toArray, sizeLine_eq]; (first | lia | omega)) (Nat.zero_le _))
  refine wpAny_bind (seqEpoch_at ho1 rfl ?_)
  refine wpAny_bind (wpAny_newTuple ?_ (by show vs.length ≤ _; rw [sizeLine_eq]; (first | lia | omega)))
  refine wpAny_bind (wpAny_newList ?_ (Nat.zero_le _))
  refine wpAny_holding ?_
  have S2 : St h₀ L ((h.update a (Obj.mapSeq fun _ => (#[] : Array Value))).push (seqObj "tuple" vs.toArray 0)) l (M₁ ++ (a, lO [] e1) :: M₂) Z := S1.keep fun b o e => Heap.get?_push_of_some _ e
  have S3 := S2.push (lO [] 0)
  show wpAny (model prog w) A (ksk_rest a f false vs.toArray e1 (.ref ((h.update a (Obj.mapSeq fun _ => (#[] : Array Value))).push (seqObj "tuple" vs.toArray 0)).objs.size)) P E (up s (((h.update a (Obj.mapSeq fun _ => (#[] : Array Value))).push (seqObj "tuple" vs.toArray 0)).push (lO [] 0)) t)
  generalize ((h.update a (Obj.mapSeq fun _ => (#[] : Array Value))).push (seqObj "tuple" vs.toArray 0)).push (lO [] 0) = h3 at S3
  generalize ((h.update a (Obj.mapSeq fun _ => (#[] : Array Value))).push (seqObj "tuple" vs.toArray 0)).objs.size = kS at S3
  unfold ksk_rest
  refine wpAny_bind (wpAny_rule ?_)
  rw [← Array.forIn_toList]
  refine wpAny_bind (wpAny_forIn_list _ (fun rest _ s' => ∃ i h' t' ks c, rest = vs.drop i ∧ i ≤ vs.length ∧ s' = up s h' t' ∧ DatAll Z ks (kds.take i) ∧ St h₀ L h' l ((kS, lO ks c) :: (M₁ ++ (a, lO [] e1) :: M₂)) Z) _ ?_ ?_ _ _ ⟨0, h3, t, [], 0, by simp, by (first | lia | omega), rfl, by simpa using DatAll.nil, S3⟩)
  · rintro x rest b s' ⟨i, h', t', ks, c, hr, hi, rfl, hks, S'⟩
    have hi' : i < vs.length := by
      rcases Nat.lt_or_ge i vs.length with q | q
      · exact q
      · rw [List.drop_of_length_le q] at hr; cases hr
    rw [List.drop_eq_getElem_cons hi'] at hr
    injection hr with hx hr
    subst hx
    have hkc := hks.length
    refine wpAny_bind (wpAny_attempt (wpAny_mono (hkey i hi' h' t' _ S' (fun k s'' => ∃ h'' t'', s'' = up s h'' t'' ∧ St h₀ L h'' l ((kS, lO ks c) :: (M₁ ++ (a, lO [] e1) :: M₂)) Z ∧ DatIn Z k (kds.getD i .none)) fun h'' t'' x S'' hx => ⟨h'', t'', rfl, S'', hx⟩) (fun x s'' hx => ?_) fun _ _ hF => hF.elim))
    obtain ⟨h'', t'', rfl, S'', hx⟩ := hx
    have nk := S''.getM (a := kS) (o := lO ks c) (by simp)
    dsimp only
    refine wpAny_bind (listUpdate_at nk rfl ?_ (by rw [List.size_toArray, sizeLine_eq, hkc, List.length_take]; (first | lia | omega)) (Nat.le_trans (Nat.le_of_eq (Array.size_push ..)) (by rw [List.size_toArray, sizeLine_eq, hkc, List.length_take]; (first | lia | omega))))
    have e2 := get?_update_seq (c := "list") (xs := ks.toArray) (n := c) nk (·.push x)
    have ea : ks.toArray.push x = (ks ++ [x]).toArray := by simp
    rw [ea] at e2
    have S4 := St.upd (M₁ := []) S'' (Heap.SameBut.update ..) e2
    refine wpAny_pure ⟨i + 1, _, _, ks ++ [x], _, hr, hi', rfl, ?_, S4⟩
    have hik : i < kds.length := by (first | lia | omega)
    rw [List.take_succ_eq_append_getElem hik]
    refine d_snoc hks ?_
    simpa [hik] using hx
  · rintro b s' ⟨i, h', t', ks, c, hr, hi, rfl, hks, S'⟩
    have hiN : i = vs.length := by
      have := congrArg List.length hr
      simp at this; (first | lia | omega)
    subst hiN
    rw [List.take_of_length_le (by (first | lia | omega))] at hks
    have hksl : ks.length = vs.length := by have := hks.length; (first | lia | omega)
    have nk := S'.getM (a := kS) (o := lO ks c) (by simp)
    refine wpAny_bind (listItems_at nk rfl ?_)
    unfold ksk_end
    simp only [Bool.false_eq_true, if_false]
    have fin : ∀ κ', (2 ≤ vs.length → κ' = κ) → wpAny (model prog w) A (do
        let ((), s) ← (if vs.toArray.size < 2 then pure () else sortRuns').run (SortSt.mk' κ' (ks.toArray.zip vs.toArray) #[] 7 none)
        ksk_tail a false e1 (.ref kS) s) P E (up s h' t') := by
      intro κ' hκ
      refine wpAny_bind (run_sorted hksl h64 O (fun h2 i j C hi hj q => by rw [hκ h2]; exact hc h2 h' t' _ ks S' hks i j C hi hj q) fun r p hp hs hout hf => ?_)
      obtain ⟨⟨⟩, st'⟩ := r
      dsimp only at hout hf ⊢
      unfold ksk_tail
      simp only [Bool.false_eq_true, if_false]
      rw [hout]
      refine wpAny_bind (listUpdate_at nk rfl ?_ (by rw [List.size_toArray, sizeLine_eq]; (first | lia | omega)) (Nat.zero_le _))
      refine wpAny_bind (wpAny_letGo ?_)
      have e3 := get?_update_seq (c := "list") (xs := ks.toArray) (n := c) nk fun _ => (#[] : Array Value)
      have S5 : St h₀ L (h'.update kS (Obj.mapSeq fun _ => (#[] : Array Value))) l ((kS, _) :: (M₁ ++ (a, lO [] e1) :: M₂)) Z := St.upd (M₁ := []) S' (Heap.SameBut.update ..) e3
      have S6 := S5.tail
      refine wpAny_bind (seqEpoch_at (S6.getM (a := a) (o := lO [] e1) (by simp)) rfl ?_)
      have hsz : (List.toArray (p.toList.map fun i => vs.getD i Value.none)).size = vs.length := by rw [List.size_toArray, List.length_map, Array.length_toList, hp.size]
      refine wpAny_bind (listUpdate_at (S6.getM (a := a) (o := lO [] e1) (by simp)) rfl ?_ (Nat.zero_le _) (Nat.le_trans (Nat.le_of_eq hsz) (by rw [sizeLine_eq]; (first | lia | omega))))
      rw [hf]
      simp only [bne_self_eq_false, Bool.false_eq_true, if_false]
      obtain ⟨n5, _, S7⟩ := S6.putL (p.toList.map fun i => vs.getD i Value.none)
      exact wpAny_pure (k _ n5 p t' hp hs S7)
    by_cases h2 : 2 ≤ vs.length
    · have hn2 : ¬ vs.toArray.size < 2 := by rw [List.size_toArray]; (first | lia | omega)
      rw [if_neg hn2]
      refine wpAny_bind (hk h2 h' t' _ ks S' hks _ _ ?_)
      exact fin κ fun _ => rfl
    · have hn2 : vs.toArray.size < 2 := by rw [List.size_toArray]; (first | lia | omega)
      rw [if_pos hn2]
      exact wpAny_bind (wpAny_pure (fin _ fun q => absurd q h2))
end
end Mine
end
section
open PySem PySem.W PySem.Calls PyProof.Rows
set_option maxHeartbeats 4000000
namespace Mine
section
variable {w : World} {A : Around} {E : Value → Shared → Prop} {s : Shared} {h₀ h : Heap} {t : Nat} {L : Addr} {l : Loc} {M M₁ M₂ Z : Led} {env : Env}
  {tp : Program} {loose : List Str} {mean : ExcName → Option Value} {mg mb : Str → Option Value} {prog : Program} {a : Addr} {n : Nat} {xs vs : List Value} {ds es : List Dat} {d e : Dat} {v y r : Value} {Q : Value → Shared → Prop}

/-- the table of the lambdas of candidates: empty, or with the one lambda's code -/
noncomputable def LamTab (pos : Pos) (qual : Str) (Z : Led) (ob : Obj) : Prop := ob = tabObj #[] ∨ ∃ (c' : Addr) (oc : Obj) (vs : Array Value) (t : Tok), ob = tabObj #[rawInt pos.line, rawInt pos.col, .ref c'] ∧ (c', oc) ∈ Z ∧ oc.data = .fields vs ∧ vs[1]? = some (.str qual t)
theorem LamTab.mono {pos : Pos} {qual : Str} {Z Z' : Led} {ob : Obj} (T : LamTab pos qual Z ob) (hs : Sub Z Z') : LamTab pos qual Z' ob := by
  rcases T with h | ⟨c', oc, vs, t, h1, h2, h3, h4⟩
  · exact .inl h
  · exact .inr ⟨c', oc, vs, t, h1, hs _ h2, h3, h4⟩

theorem r_lam {params : Arguments} {body : Expr} {scope : Scope} {pos : Pos} {cn : Str} {cs : Scope} {fa : Addr} {ob : Obj} (B : Base w tp loose mean mg mb h₀) (S : St h₀ L h l (M₁ ++ (104, ob) :: M₂) Z) (T : LamTab pos (cn ++ ".<locals>." ++ "<lambda>") Z ob)
    (henv : env = envX cn cs L fa (.ref 106) []) (hdef : defaultsOf params env = ([], [])) (hcl : closureFor scope (envX cn cs L fa (.ref 106) []) = pure [])
    (k : ∀ h' t' Z' ob' f c' oc vs tk pm ctv, Sub Z Z' → St h₀ L h' l (M₁ ++ (104, ob') :: M₂) Z' → LamTab pos (cn ++ ".<locals>." ++ "<lambda>") Z' ob' → (f, kla_obj "<lambda>" (cn ++ ".<locals>." ++ "<lambda>") params body scope [] pm c' ctv) ∈ Z' → (c', oc) ∈ Z' → oc.data = .fields vs → vs[1]? = some (.str (cn ++ ".<locals>." ++ "<lambda>") tk) → Q (.ref f) (up s h' t')) :
    wpAny (model prog w) A (eval (.Lambda params body scope pos) env) Q E (up s h t) := by
  refine kla_eval hdef ?_
  subst henv
  obtain ⟨m, Fm, hm⟩ := S.fr
  rcases T with h | ⟨c', oc, vs, tk, h1, h2, h3, h4⟩
  · subst h
    refine kla_nest (s := up s _ t) Fm S.N B.T B.C rfl S.updF trivial rfl hcl fun f c' oc vs tk ctv h' tk' F' N' d1 d2 l1 l2 => ?_
    have S1 : St h₀ L h' l (M₁ ++ (104, tabObj (#[] ++ #[rawInt pos.line, rawInt pos.col, .ref c'])) :: M₂) Z := S.set F' hm fun p hp => N' p (.tail _ (.tail _ hp))
    have mem : ∀ p ∈ M₁ ++ (104, tabObj (#[] ++ #[rawInt pos.line, rawInt pos.col, .ref c'])) :: M₂ ++ Z, p.1 < c' := fun p hp => by
      have : ∃ q ∈ M₁ ++ (104, tabObj #[]) :: M₂ ++ Z, q.1 = p.1 := by
        rcases List.mem_append.mp hp with hp | hp
        · rcases List.mem_append.mp hp with hp | hp
          · exact ⟨p, by simp [hp], rfl⟩
          · rcases List.mem_cons.mp hp with rfl | hp
            · exact ⟨(104, tabObj #[]), by simp, rfl⟩
            · exact ⟨p, by simp [hp], rfl⟩
        · exact ⟨p, by simp [hp], rfl⟩
      obtain ⟨q, hq, e⟩ := this
      rw [← e]; exact l1 q hq
    have S2 := S1.next F' hm (fun p hp => N' p (.tail _ hp)) mem
    have S3 := S2.next F' hm N' (fun p hp => by
      rcases List.mem_cons.mp hp with rfl | hp
      · exact l2
      · exact Nat.lt_trans (mem p hp) l2)
    exact k h' tk' _ _ f c' oc vs tk _ ctv ((Sub.cons _ _).trans (Sub.cons _ _)) S3.freeze.freeze (.inr ⟨c', oc, vs, tk, rfl, .head _, d1, d2⟩) (.tail _ (.head _)) (.head _) d1 d2
  · subst h1
    refine kla_hit (s := up s _ t) (c' := c') Fm S.N B.T B.C rfl (List.mem_append.mpr (.inl (List.mem_append.mpr (.inr (.head _))))) trivial ?_ hcl fun f ctv h' tk' F' N' l1 => ?_
    · exact codeAmong_snoc (pos := pos) (c := .ref c') [] trivial rfl
    · have S2 := (S.next F' hm N' l1).freeze
      exact k h' tk' _ _ f c' oc vs tk _ ctv (Sub.cons _ _) S2 (.inr ⟨c', oc, vs, tk, rfl, .tail _ h2, h3, h4⟩) (.head _) (.tail _ h2) h3 h4

theorem call_lam {n : Nat} {name qual : Str} {params : Arguments} {body : Expr} {scope : Scope} {pm ctv : Value} {c' f : Addr} {oc : Obj} {vs : Array Value} {tk : Tok} {x : Str} (B : Base w tp loose mean mg mb h₀) (S : St h₀ L h l M Z) (R : Rm A (n + 1))
    (hf : (f, kla_obj name qual params body scope [] pm c' ctv) ∈ Z) (hc : (c', oc) ∈ Z) (hd : oc.data = .fields vs) (hv : vs[1]? = some (.str qual tk))
    (hbind : bindArgs (kla_fn name qual params body scope [] pm (.ref c') ctv) ⟨[v], []⟩ = (pure [(x, v)] : Sem Loc)) (hcell : (scope.names.all fun y => y.2 != .cell) = true) (hloc : scope.names.lookup x = some .local)
    (hco : scope.isCoroutine = false) (hgen : scope.isGenerator = false) (hk : scope.kind = .function)
    (k : ∀ g L' h₁ t₁, Base w tp loose mean mg mb g → (∀ L'' h' l' M' Z', St g L'' h' l' M' Z' → St h₀ L h' l M' Z') → St g L' h₁ [(x, v)] M Z → Rm (A.deeper (envX qual scope L' f (.ref c') [])) n →
      wpAny (model prog w) (A.deeper (envX qual scope L' f (.ref c') [])) (eval body (envX qual scope L' f (.ref c') [])) Q (fun _ _ => False) (up s h₁ t₁)) :
    wpAny (model prog w) A (call (.ref f) [v]) Q E (up s h t) := by
  obtain ⟨g, st, hsz, hgh, hn, back⟩ := S.enter
  refine wpAny_call (kla_callFunE R.room (S.getZ hf) rfl hco hgen rfl ⟨c', oc, vs, tk, rfl, S.getZ hc, hd, hv⟩ ?_)
  rw [hbind]
  refine wpAny_pure (wpAny_newFunctionEnv (fun y hy => by have := List.all_eq_true.mp hcell y hy; simpa using this) (fun y hy => by rw [List.mem_singleton.mp hy]; exact hloc) (fun h₁ hns hsb => ⟨((B.T.nolimit).keeps S.stays).fresh _ hsb, ?_⟩) hk)
  show codeAny _ _ (.expr body (envX qual scope h.objs.size f (.ref c') [])) _ _
  have hk₁ : ∀ b o, h.get? b = some o → h₁.get? b = some o := fun b o e => hsb.extBut b o (Nat.ne_of_lt (Heap.lt_size e)) (Heap.get?_push_of_some _ e)
  have S' : St g h.objs.size h₁ [(x, v)] M Z := S.newFrame hsz hgh hn hns (Nat.le_refl _) hk₁ fun y u e => e
  exact kla_codeExpr (wpAny_mono (k g _ h₁ _ (B.keeps st) back S' R.deeper) (fun v s' q => q) fun _ _ e => e.elim)

/-- a key and an entry of candidates -/
noncomputable abbrev Key := Int × List Int
noncomputable abbrev Ent := Key × Sig × Str
noncomputable abbrev dKey (k : Key) : Dat := .tuple [.int k.1, dTInts k.2]
noncomputable abbrev dEnt (e : Ent) : Dat := .tuple [dKey e.1, dSig e.2.1, .str e.2.2]

theorem key_at {W : Led} {ks : List Key} (S : St h₀ L h l M Z) (hs : Sub W (M ++ Z)) (hd : DatAll W vs (ks.map dKey)) (i : Nat) (hi : i < ks.length) :
    ∃ a n t b us m, vs.getD i Value.none = .ref a ∧ h.get? a = some (tO [.int ks[i].1 t, .ref b] n) ∧ h.get? b = some (tO us m) ∧ IntsAre us ks[i].2 := by
  have hl := hd.length
  obtain ⟨hv, hx⟩ := d_get hd (k := i) (by simpa using hi)
  have hx' : DatIn W vs[i] (dKey ks[i]) := by simpa using hx
  obtain ⟨a, us, n, e, hm, hu⟩ := d_tup hx'
  cases hu with
  | cons h1 r => cases r with
    | cons h2 r => cases r with
      | nil =>
        obtain ⟨t, rfl⟩ := d_int h1
        obtain ⟨b, us, m, rfl, hm2, hu2⟩ := d_tup h2
        exact ⟨a, n, t, b, us, m, by simp [hv, e], S.get (hs _ hm), S.get (hs _ hm2), ints_of hu2⟩

theorem kind_keys {W : Led} {ks : List Key} {Q : SortKind → Shared → Prop} (S : St h₀ L h l M Z) (hs : Sub W (M ++ Z)) (hd : DatAll W vs (ks.map dKey)) (h2 : 2 ≤ vs.length) (k : Q (tuples' true) (up s h t)) :
    wpAny (model prog w) A (keyKind' vs.toArray) Q E (up s h t) := by
  have : ∃ fs, KatTups h vs fs ∧ fs.length = vs.length ∧ ∀ v ∈ fs, ∃ x t, v = .int x t := by
    clear h2 k
    induction ks generalizing vs with
    | nil => cases hd; exact ⟨[], .nil, rfl, by simp⟩
    | cons q ks ih =>
      cases hd with
      | cons h1 h2 =>
        obtain ⟨fs, k1, k2, k3⟩ := ih h2
        obtain ⟨a, us, n, rfl, hm, hu⟩ := d_tup h1
        cases hu with
        | cons g1 g2 =>
          obtain ⟨tk, rfl⟩ := d_int g1
          refine ⟨.int q.1 tk :: fs, .cons (S.get (hs _ hm)) rfl rfl rfl k1, by simp [k2], fun v hv => ?_⟩
          rcases List.mem_cons.mp hv with rfl | hv
          · exact ⟨_, tk, rfl⟩
          · exact k3 v hv
  obtain ⟨fs, k1, k2, k3⟩ := this
  refine kat_kind (s := up s h t) (T := .type "int") k1 (by (first | lia | omega)) (fun v hv => ?_) (by decide) k
  obtain ⟨x, tk, rfl⟩ := k3 v hv
  exact Looks.of_pure rfl

theorem r_sortKey {D f : Addr} {es : List Ent} {c : Nat} (S : St h₀ L h l (M₁ ++ (D, lO vs n) :: M₂) Z) (hu : A.units + 4 < cLine) (hd : DatAll Z vs (es.map dEnt)) (h64 : es.length < 64) (nd : (es.map (·.1)).Nodup) (hc : ∀ e ∈ es, e.1.2.length = c)
    (hkey : ∀ (x : Value) (e : Ent) h' t' M', DatIn Z x (dEnt e) → St h₀ L h' l M' Z → ∀ Q : Value → Shared → Prop, (∀ h'' t'' y, St h₀ L h'' l M' Z → DatIn Z y (dKey e.1) → Q y (up s h'' t'')) → wpAny (model prog w) A.in1 (call (.ref f) [x]) Q (fun _ _ => False) (up s h' t'))
    (k : ∀ h' t' vs' n' (es' : List Ent), es'.Perm es → es'.Pairwise (fun a b => ltKey a.1 b.1 = true) → DatAll Z vs' (es'.map dEnt) → St h₀ L h' l (M₁ ++ (D, lO vs' n') :: M₂) Z → Q .none (up s h' t')) :
    wpAny (model prog w) A (call (.builtin "list.sort") [.ref D] [("key", .ref f)]) Q E (up s h t) := by
  have hvl : vs.length = es.length := by have := hd.length; simpa using this
  have hg := S.getM (a := D) (o := lO vs n) (by simp)
  refine wpAny_call_entry_kw slot_list_sort ⟨_, hg, rfl⟩ entry_list_sort ?body (ksk_l1 _ _)
  case body =>
  have ht := ksk_t1 f D
  show wpAny (model prog w) A.in1 (Builtin.«list.sort» ⟨[.ref D], [(Str.ofString "key", .ref f)]⟩) _ _ _
  rw [ht]
  have nd2 : es.Nodup := List.Pairwise.of_map (f := fun e : Ent => e.1) (fun a b h e => h (by rw [e])) nd
  have O : Ord vs.length (fun i j => ltKey (es.getD i default).1 (es.getD j default).1) := by
    rw [hvl]
    refine ord_list (lt := fun a b => ltKey a.1 b.1) nd2 (fun a ha b hb hne => ltKey_tot ((hc a ha).trans (hc b hb).symm) fun e => hne ?_) (fun a b => ltKey_asym) fun a b c => ltKey_trans
    obtain ⟨i, hi, rfl⟩ := List.getElem_of_mem ha
    obtain ⟨j, hj, rfl⟩ := List.getElem_of_mem hb
    have := (List.getElem_inj (xs := es.map (·.1)) (h₀ := by simpa using hi) (h₁ := by simpa using hj) nd).mp (by simpa using e)
    subst this; rfl
  have hks : (es.map fun e => dKey e.1) = (es.map (·.1)).map dKey := by rw [List.map_map]; rfl
  refine sort_keyed (κ := tuples' true) (kds := es.map fun e => dKey e.1) S (by (first | lia | omega)) O (by simp [hvl]) (fun i hi h' t' M' S' Q q => ?_) (fun h2 h' t' M' ks S' hks' Q E q => ?_) (fun h2 h' t' M' ks S' hks' i j C hi hj q => ?_) (fun h' n' p t' hp hs S' => ?_)
  · obtain ⟨_, hx⟩ := d_get hd (k := i) (by simp; (first | lia | omega))
    have hx' : DatIn Z vs[i] (dEnt (es[i]'(by (first | lia | omega)))) := by simpa using hx
    refine hkey _ _ _ _ _ hx' S' _ fun h'' t'' y S'' hy => q _ _ _ S'' ?_
    simpa [show i < es.length by (first | lia | omega)] using hy
  · rw [hks] at hks'
    have : ks.length = es.length := by have := hks'.length; simpa using this
    exact kind_keys S' (subZ _ _) hks' (by (first | lia | omega)) q
  · rw [hks] at hks'
    obtain ⟨a, na, ta, pa, ua, ma, e1, e2, e3, e4⟩ := key_at S' (subZ _ _) hks' i (by simp; (first | lia | omega))
    obtain ⟨b, nb, tb, pb, ub, mb', f1, f2, f3, f4⟩ := key_at S' (subZ _ _) hks' j (by simp; (first | lia | omega))
    rw [e1, f1]
    have i1 : i < es.length := by (first | lia | omega)
    have j1 : j < es.length := by (first | lia | omega)
    have eq1 : es.getD i default = es[i] := by simp [i1]
    have eq2 : es.getD j default = es[j] := by simp [j1]
    rw [eq1, eq2] at q
    simp only [List.getElem_map] at e2 e3 e4 f2 f3 f4
    refine kat_lt (s := up s h' t') (xs := #[.int es[i].1.1 ta, .ref pa]) (ys := #[.int es[j].1.1 tb, .ref pb]) e2 rfl f2 rfl ?_
    have hlen : es[i].1.2.length = es[j].1.2.length := (hc _ (List.getElem_mem _)).trans (hc _ (List.getElem_mem _)).symm
    have huu : A.in1.units < cLine := by show A.units + 1 < _; (first | lia | omega)
    refine kat_cons (wpAny_eqBool_int ?_)
    by_cases he : es[i].1.1 = es[j].1.1
    · have e' : (es[i].1.1 == es[j].1.1) = true := by simpa using he
      rw [e']
      refine kat_yes (kat_cons (r_eqBoolT huu e3 f3 e4 f4 ?_))
      rw [ltKey, if_pos he] at q
      by_cases hp : es[i].1.2 = es[j].1.2
      · rw [decide_eq_true hp]
        refine kat_yes (kat_nil ?_)
        have : lexI es[i].1.2 es[j].1.2 = false := by
          rw [← Bool.not_eq_true]
          intro hh
          have h2 := lexI_asym hh
          rw [hp] at hh h2
          rw [hh] at h2; cases h2
        rw [this] at q; exact q
      · rw [decide_eq_false hp]
        refine kat_no ?_
        show wpAny (model prog w) A.in1 (oneLt' false (.ref pa) (.ref pb)) _ _ _
        exact kat_one _ _ (r_ltT huu e3 f3 e4 f4 hlen q)
    · have e' : (es[i].1.1 == es[j].1.1) = false := by simpa using he
      rw [e']
      rw [ltKey, if_neg he] at q
      refine kat_no ?_
      show wpAny (model prog w) A.in1 (oneLt' true (.int es[i].1.1 ta) (.int es[j].1.1 tb)) _ _ _
      exact oneLt_int q
  · rw [hvl] at hp hs
    obtain ⟨o1, o2⟩ := out_sorted (lt := fun a b : Ent => ltKey a.1 b.1) hp hs
    refine ⟨_, rfl, k _ _ _ _ (p.toList.map fun i => es.getD i default) o1 o2 ?_ S'⟩
    have hlt : ∀ i ∈ p.toList, i < es.length := fun i hi => by
      have := hp.mem_iff.mp hi
      simpa using this
    have := d_pick hd p.toList fun i hi => by simpa using hlt i hi
    rw [List.map_map]
    have e : (p.toList.map fun i => (es.map dEnt).getD i Dat.none) = p.toList.map (dEnt ∘ fun i => es.getD i default) := by
      refine List.map_congr_left fun i hi => ?_
      have := hlt i hi
      simp [this]
    rw [← e]; exact this
end
end Mine
end
section
open PySem PySem.W PySem.Calls PyProof.Rows
set_option maxHeartbeats 4000000
namespace Mine
section
variable {w : World} {A : Around} {E : Value → Shared → Prop} {s : Shared} {h₀ h : Heap} {t : Nat} {L : Addr} {l : Loc} {M M₁ M₂ Z : Led} {env : Env}
  {tp : Program} {loose : List Str} {mean : ExcName → Option Value} {mg mb : Str → Option Value} {prog : Program} {a : Addr} {n : Nat} {xs vs : List Value} {ds es : List Dat} {d e : Dat} {v y r : Value} {Q : Value → Shared → Prop}

noncomputable abbrev lamPos : Pos := ⟨52, 23, 52, 45⟩
noncomputable abbrev lamCn : Str := "MethodTable.candidates"
noncomputable abbrev lamQ : Str := lamCn ++ ".<locals>." ++ "<lambda>"
theorem fn_cand (w : World) : FnOk w 107 ["self", "name", "rows"] := ⟨by kernel_rfl!, by kernel_rfl!, by kernel_rfl!, by kernel_rfl!, by kernel_rfl!, by kernel_rfl!, by kernel_rfl!, by kernel_rfl!⟩
theorem bd_cand (w : World) (a b c : Value) : bindArgs (fdAt w 107) ⟨[a, b, c], []⟩ = (pure ((["self", "name", "rows"] : List Str).zip [a, b, c]) : Sem Loc) := by kernel_rfl!
theorem env_cand (w : World) (L : Addr) : envAt w 107 L = envX lamCn (fdAt w 107).scope L 107 (.ref 106) [] := by kernel_rfl!

noncomputable def entOf (rows : List Line) (m : Sig × Str) : Ent := ((tot rows m.1, plc rows m.1), m.1, m.2)
noncomputable def ents (rows : List Line) (ms : List (Sig × Str)) : List Ent := (ms.filter fun m => fits rows m.1).map (entOf rows)
noncomputable abbrev dTold (e : Ent) : Dat := dRow (e.1.1, e.2.1, e.2.2)

theorem plc_inj : ∀ {rows : List Line} {a b : Sig}, a.length = rows.length → b.length = rows.length → fits rows a = true → fits rows b = true → plc rows a = plc rows b → a = b
  | [], [], [], _, _, _, _, _ => rfl
  | [], _ :: _, _, h, _, _, _, _ => by simp at h
  | [], [], _ :: _, _, h, _, _, _ => by simp at h
  | _ :: _, [], _, h, _, _, _, _ => by simp at h
  | _ :: _, _ :: _, [], _, h, _, _, _ => by simp at h
  | ln :: rows, x :: a, y :: b, h1, h2, f1, f2, hp => by
    simp only [plc, List.zipWith_cons_cons, List.cons.injEq] at hp
    unfold fits plc at f1 f2
    simp only [List.zipWith_cons_cons, List.all_cons, Bool.and_eq_true, decide_eq_true_eq] at f1 f2
    obtain ⟨i, hi, e1, e2, _⟩ := placeI_some (ln := ln) (x := x) (by lia)
    obtain ⟨j, hj, e3, e4, _⟩ := placeI_some (ln := ln) (x := y) (by lia)
    have hij : i = j := by have := hp.1; rw [e1, e3] at this; lia
    subst hij
    rw [← e2, ← e4, plc_inj (rows := rows) (by simpa using h1) (by simpa using h2) f1.2 f2.2 hp.2]
theorem ents_nodup {rows : List Line} {ms : List (Sig × Str)} (nd : (ms.map (·.1)).Nodup) (hl : ∀ m ∈ ms, m.1.length = rows.length) : ((ents rows ms).map (·.1)).Nodup := by
  unfold ents
  induction ms with
  | nil => exact List.nodup_nil
  | cons m ms ih =>
    rw [List.map_cons, List.nodup_cons] at nd
    have ih' := ih nd.2 fun x hx => hl x (.tail _ hx)
    rw [List.filter_cons]
    split
    · rename_i hf
      rw [List.map_cons, List.map_cons, List.nodup_cons]
      refine ⟨fun hm => ?_, ih'⟩
      obtain ⟨e, he, eq⟩ := List.mem_map.mp hm
      obtain ⟨m', hm', rfl⟩ := List.mem_map.mp he
      obtain ⟨hm1, hm2⟩ := List.mem_filter.mp hm'
      have : m'.1 = m.1 := plc_inj (hl m' (.tail _ hm1)) (hl m (.head _)) hm2 hf (by have := congrArg Prod.snd eq; exact this)
      exact nd.1 (List.mem_map.mpr ⟨m', hm1, this⟩)
    · exact ih'

theorem c_cand {x ml : Addr} {u : Tok} {as : List Dat} {rows : List Line} {ms : List (Sig × Str)} {ob : Obj} (B : Base w tp loose mean mg mb h₀) (S : St h₀ L h l (M₁ ++ (104, ob) :: M₂) Z) (R : Rm A 10) (T : TabIn w Z x ml as) (hml : (ml, lO vs n) ∈ M₁ ++ M₂)
    (hms : DatAll Z vs (ms.map dMeth)) (hr : DatIn Z r (dLines rows)) (hlen : ∀ m ∈ ms, m.1.length = rows.length) (nd : (ms.map (·.1)).Nodup) (hmz : ms.length < 64) (hz : rows.length ≤ 1000) (hz2 : ∀ ln ∈ rows, ln.length ≤ 1000) (hT : LamTab lamPos lamQ Z ob)
    (k : ∀ h' t' Z' ob' D (es' : List Ent), Sub Z Z' → St h₀ L h' l (M₁ ++ (104, ob') :: M₂) Z' → LamTab lamPos lamQ Z' ob' → es'.Perm (ents rows ms) → es'.Pairwise (fun a b => ltKey a.1 b.1 = true) → DatIn Z' (.ref D) (.list (es'.map dTold)) → Q (.ref D) (up s h' t')) :
    wpAny (model PG w) A (call (.ref 107) [.ref x, .str "g" u, r]) Q E (up s h t) := by
  refine call_fn [("rows", r), ("name", .str "g" u), ("self", .ref x)] (fn_cand w) (bd_cand w _ _ _) rfl B S R fun g L' h₁ t₁ Bg back S' R' => ?_
  have hvl : vs.length = ms.length := by have := hms.length; simpa using this
  have hml' : (ml, lO vs n) ∈ M₁ ++ (104, ob) :: M₂ := by
    rcases List.mem_append.mp hml with h | h
    · exact List.mem_append.mpr (.inl h)
    · exact List.mem_append.mpr (.inr (.tail _ h))
  refine wpAny_execs_cons ?_
  walk_at "asn"
  refine List_ (args_nil ?_)
  refine r_list S' (by decide) (fun h₂ fa S₂ => ?_)
  refine n_store S₂ (fun h₃ t₃ S₃ => ?_) (by walk_at "ev") (by walk_at "ev") (by walk_at "ev")
  refine wpAny_execs_cons (s_for ?_ (by intro _; rfl))
  refine Subscript_ ?_
  refine x_gend Bg S₃ T (by walk_at "lk") (by walk_at "lk") (fun t₂ tpl nt al htp hal => ?_) (by walk_at "ev") (by walk_at "ev") (by walk_at "ev") (by walk_at "ev")
  refine e_int fun t₄ => ?_
  refine x_Tz 1 rfl S₃ htp rfl (by simp) ?_
  refine for_listM (S₃.lc (l' := [("found", .ref fa), ("rows", r)]) (by walk_at "lc")) R'.hh (n := n) (xs := vs) (ds := ms.map dMeth) (.tail _ hml') hms
    (fun i l' M' Z' => ∃ xs c, l' = ([("found", .ref fa), ("rows", r)] : Loc) ∧ M' = (fa, lO xs c) :: (M₁ ++ (104, ob) :: M₂) ∧ DatAll Z' xs ((ents rows (ms.take i)).map dEnt) ∧ xs.length ≤ i) ?_ ?_ ?_ ?_
  · rintro i l' M' Z' ⟨xs, c, rfl, rfl, _⟩; exact .tail _ hml'
  · exact ⟨[], 0, rfl, rfl, by simpa [ents] using DatAll.nil, by simp⟩
  · intro i y l' M' Z' h' t' I o E' hi hy hs hJ₀ S₄ K hK
    obtain ⟨xs, c, rfl, rfl, hxs, hxl⟩ := hJ₀
    have hi' : i < ms.length := by simpa using hi
    have hy' : DatIn Z' y (.tuple [dSig ms[i].1, .str ms[i].2]) := by simpa using hy
    refine as_pair R'.hh S₄ hy' (fun h₅ t₅ v₁ v₂ hv₁ hv₂ S₅ => ?_) (by walk_at "ev") (by walk_at "ev") (by walk_at "ev") (by walk_at "ev")
    refine wpAny_execs_cons ?_
    walk_at "asn"
    refine x_def Bg S₅ (g_measure w) (k_142 w) ?_ (by walk_at "ev") (by walk_at "ev") (by walk_at "ev")
    refine arg2 ?_
    walk_at "nm"
    walk_at "nm"
    refine ⟨Bg.at S₅, ?_⟩
    refine c_measure Bg S₅ R'.less hv₁ (hr.mono hs) (hlen _ (List.getElem_mem hi')) hz hz2 fun h₆ t₆ Z₁ x hs₁ S₆ hx => ?_
    refine n_store S₆ (fun h₇ t₇ S₇ => ?_) (by walk_at "ev") (by walk_at "ev") (by walk_at "ev")
    refine wpAny_execs_cons (wpAny_If (wpAny_isTrue_Compare1 ?_ (by walk_at "ev")))
    walk_at "nm"
    refine e_none (x_isnot (b_truthy ?_))
    have hen : ents rows (ms.take (i + 1)) = ents rows (ms.take i) ++ if fits rows ms[i].1 = true then [entOf rows ms[i]] else [] := by
      unfold ents
      rw [List.take_succ_eq_append_getElem hi', List.filter_append, List.map_append]
      congr 1
      by_cases hf : fits rows ms[i].1 = true
      · rw [if_pos hf]; simp [hf]
      · rw [if_neg hf]; simp [hf]
    by_cases hf : fits rows ms[i].1 = true
    · have hx' : DatIn Z₁ x (dKey (tot rows ms[i].1, plc rows ms[i].1)) := by
        unfold dMeas at hx; rw [if_pos hf] at hx; exact hx
      have e1 : (!(x == Value.none)) = true := by obtain ⟨a, _, _, rfl, _⟩ := d_tup hx'; rfl
      rw [e1, if_pos rfl]
      refine wpAny_execs_cons (wpAny_Expr (MethodCall_ ?_ (by rfl)))
      walk_at "nm"
      refine m_list (S₇.getM (o := lO xs c) (by simp)) rfl rfl F.slot_list_append F.type_list_append ?_
      refine callWith_method1 (arg1 (Tuple_ (arg3 ?_)))
      walk_at "nm"
      walk_at "nm"
      walk_at "nm"
      refine r_tuple S₇ (.cons hx' (.cons (hv₁.mono hs₁) (.cons (hv₂.mono hs₁) .nil))) (by simp) fun h₈ b Z₂ S₈ hs₂ hb => ?_
      refine r_append (M₁ := [(I, o)]) S₈ (by lia) fun h₉ S₉ => ?_
      refine wpAny_execs_nil (wpAny_execs_nil (hK _ _ <| TurnE.next (hs₁.trans hs₂) (S₉.lc (l' := [("found", .ref fa), ("rows", r)]) (by walk_at "lc")) ⟨_, _, rfl, rfl, ?_, by simp; omega⟩))
      rw [hen, if_pos hf, List.map_append]
      exact d_snoc (hxs.mono (hs₁.trans hs₂)) hb
    · have hx' : x = .none := by
        unfold dMeas at hx; rw [if_neg hf] at hx; exact d_none hx
      subst hx'
      have e1 : (!(Value.none == Value.none)) = false := rfl
      rw [e1, if_neg (by decide)]
      refine wpAny_execs_nil (wpAny_execs_nil (hK _ _ <| TurnE.next hs₁ (S₇.lc (l' := [("found", .ref fa), ("rows", r)]) (by walk_at "lc")) ⟨_, _, rfl, rfl, ?_, by exact Nat.le_succ_of_le (by assumption)⟩))
      rw [hen, if_neg hf, List.append_nil]
      exact hxs.mono hs₁
  · rintro l' M' Z' h' t' hs ⟨xs, c, rfl, rfl, hxs, hxl⟩ S₄
    rw [List.take_of_length_le (by simp)] at hxs
    have hxl2 : xs.length = (ents rows ms).length := by have := hxs.length; simpa using this
    have hel : (ents rows ms).length ≤ ms.length := by unfold ents; rw [List.length_map]; exact List.length_filter_le _ _
    refine wpAny_execs_cons (wpAny_Expr (MethodCallKw_ ?_ (by rfl)))
    walk_at "nm"
    refine m_list (S₄.getM (o := lO xs c) (by simp)) rfl rfl F.slot_list_sort F.type_list_sort ?_
    refine cw_kw1 ?_
    refine r_lam (M₁ := (fa, lO xs c) :: M₁) Bg S₄ (hT.mono hs) (env_cand w L') (by rfl) (by rfl) fun h₅ t₅ Z₁ ob' f c' oc vs' tk pm ctv hs₁ S₅ hT' hf hc hd hv => ?_
    refine r_sortKey (M₁ := []) (c := rows.length) S₅ (by have := R'.hu; lia) (hxs.mono hs₁) (by lia) (ents_nodup nd hlen) (fun e he => ?_) (fun y e h' t' M' hy S' Q q => ?_) fun h₆ t₆ vs₆ n₆ es' hp hso hd₆ S₆ => ?_
    · unfold ents at he
      obtain ⟨m, hm, rfl⟩ := List.mem_map.mp he
      have := hlen m (List.mem_filter.mp hm).1
      simp [entOf, plc]; lia
    · refine call_lam Bg S' R'.in1 hf hc hd hv (x := "entry") (by rfl) (by rfl) (by rfl) (by rfl) (by rfl) (by rfl) fun g₂ L₂ h₂ t₂ Bg₂ back₂ S'' R₂ => ?_
      refine Subscript_ ?_
      refine e_loc S'' lk_here ?_ (by rfl) (by rfl) (by rfl)
      refine e_int fun t₃ => ?_
      refine x_T 0 rfl S'' hy rfl (by simp) fun z hz => ?_
      exact q _ _ _ (back₂ _ _ _ _ _ S'') hz
    · have S₇ : St g L' h₆ _ ((fa, lO vs₆ n₆) :: (M₁ ++ (104, ob') :: M₂)) Z₁ := S₆
      have hesl : es'.length ≤ 1000 := by rw [hp.length_eq]; lia
      obtain ⟨Z₂, S₈, hs₂, hfd⟩ := fz_list S₇ hd₆
      refine wpAny_execs_cons (wpAny_Return_some ?_)
      refine e_comp (cl := []) (by walk_at "ev") (by walk_at "ev") (by walk_at "ev") (by intro _; rfl) ?_
      walk_at "nm"
      refine comp_list S₈ R'.hh hfd (by simpa using hesl) (by walk_at "ev") (by walk_at "ev") (by walk_at "ev")
        (fun j acc M' Z'' => M' = M₁ ++ (104, ob') :: M₂ ∧ DatAll Z'' acc ((es'.take j).map dTold)) ⟨rfl, by simpa using DatAll.nil⟩ ?_ ?_
      · intro g' C D I' j u acc kD M' Z'' h' t' o' E' hg' hj hu hs' hJ₀ hal S₉ K hK
        obtain ⟨rfl, hacc⟩ := hJ₀
        have hj' : j < es'.length := by simpa using hj
        have hu' : DatIn Z'' u (dEnt es'[j]) := by simpa using hu
        show wpAny _ _ _ _ _ _
        refine Tuple_ (arg3 ?_)
        refine Subscript_ (Subscript_ ?_)
        refine e_loc S₉ (by walk_at "lk") ?_ (by walk_at "ev") (by walk_at "ev") (by walk_at "ev")
        refine e_int fun t₆ => ?_
        refine x_T 0 rfl S₉ hu' rfl (by simp) fun z hz => ?_
        refine e_int fun t₆ => ?_
        refine x_T 0 rfl S₉ hz rfl (by simp) fun z1 hz1 => ?_
        refine Subscript_ ?_
        refine e_loc S₉ (by walk_at "lk") ?_ (by walk_at "ev") (by walk_at "ev") (by walk_at "ev")
        refine e_int fun t₆ => ?_
        refine x_T 1 rfl S₉ hu' rfl (by simp) fun z2 hz2 => ?_
        refine Subscript_ ?_
        refine e_loc S₉ (by walk_at "lk") ?_ (by walk_at "ev") (by walk_at "ev") (by walk_at "ev")
        refine e_int fun t₆ => ?_
        refine x_T 2 rfl S₉ hu' rfl (by simp) fun z3 hz3 => ?_
        refine r_tuple S₉ (.cons hz1 (.cons hz2 (.cons hz3 .nil))) (by simp) fun h₈ b Z₃ S₁₀ hs₃ hb => ?_
        refine hK _ _ <| CompE.mk hs₃ S₁₀ ⟨rfl, ?_⟩
        rw [List.take_succ_eq_append_getElem hj', List.map_append]
        exact d_snoc (hacc.mono hs₃) hb
      · rintro C oC D acc kD M' Z'' h'' t'' hs' ⟨rfl, hacc⟩ hal
        intro h₇ S₉
        rw [List.take_of_length_le (by simp)] at hacc
        obtain ⟨Z₃, S₁₀, hs₃, hfd₃⟩ := fz_list S₉ hacc
        have hsub := hs₁.trans (hs₂.trans (hs'.trans hs₃))
        exact k _ _ _ _ _ es' (hs.trans hsub) (back _ _ _ _ _ S₁₀) (hT'.mono (hs₂.trans (hs'.trans hs₃))) hp hso hfd₃
end
end Mine
end
section
open PySem PySem.W PySem.Calls PyProof.Rows
set_option maxHeartbeats 4000000
namespace Mine
section
variable {w : World} {A : Around} {E : Value → Shared → Prop} {s : Shared} {h₀ h : Heap} {t : Nat} {L : Addr} {l : Loc} {M M₁ M₂ Z : Led} {env : Env}
  {tp : Program} {loose : List Str} {mean : ExcName → Option Value} {mg mb : Str → Option Value} {prog : Program} {a : Addr} {n : Nat} {xs vs : List Value} {ds es : List Dat} {d e : Dat} {v y r : Value} {Q : Value → Shared → Prop}

noncomputable abbrev slO (vl vu : Value) : Obj := { cls := .type "slice", data := .fields #[vl, vu, .none] }
theorem x_slice {ax : Addr} {value slice : Expr} {vl vu : Value} {lo hi : Option Int} {ws : List Value} (S : St h₀ L h l M Z) (hm : (ax, lO vs n) ∈ M ++ Z) (pl : IsPart vl lo) (pu : IsPart vu hi) (he : slicePick vs.toArray lo hi none = ws.toArray) (hz : vs.length ≤ 1000)
    (k : ∀ h' D, St h₀ L h' l ((D, lO ws 0) :: M) Z → Q (.ref D) (up s h' t))
    (hs : ∀ a i, subscripted slice false (.ref a) (.ref i) = operate [.ref i, .ref a] (getItem (.ref a) (.ref i)) := by intro _ _; with_unfolding_all rfl) :
    wpAny (model prog w) A (subscriptTail value slice (.ref ax) (.ref h.objs.size)) Q E (up s (h.push (slO vl vu)) t) := by
  have S1 := S.push (slO vl vu)
  have hl : (h.push (slO vl vu)).IsList ax vs.toArray := ⟨_, S1.get (by
    rcases List.mem_append.mp hm with q | q
    · exact List.mem_append.mpr (.inl (.tail _ q))
    · exact List.mem_append.mpr (.inr q)), rfl, n, rfl⟩
  refine tail_any (Heap.IsList.typeIs (s := up s (h.push (slO vl vu)) t) hl) slot_list_getitem.lookup ?_ (hs _ _)
  refine wpAny_getItem_list_slice (s := up s (h.push (slO vl vu)) t) hl (Heap.IsSliceOf.new ..) pl pu .none (by simp) ?_ (by rw [List.size_toArray, sizeLine_eq]; (first | lia | omega))
  rw [he]
  exact k _ _ (St.perm (S1.tail.push (lO ws 0)) (List.Perm.refl _))

theorem pick_from (vs : List Value) (j : Nat) (hj : j ≤ vs.length) : slicePick vs.toArray (some (j : Int)) none none = (vs.drop j).toArray := by
  rw [slicePick_from _ _ (by simpa using hj)]
theorem pick_upto (vs : List Value) (j : Nat) : slicePick vs.toArray none (some (j : Int)) none = (vs.take j).toArray := by
  have e : sliceBounds none (some (j : Int)) none vs.toArray.size = (((0 : Nat) : Int), ((min j vs.toArray.size : Nat) : Int), 1) := by
    simp only [sliceBounds, Option.getD_none, show (1 : Int) > 0 by decide, if_true, if_neg (show ¬ ((j : Int) < 0) by (first | lia | omega))]
    congr 1
    congr 1
    first | lia | omega
  rw [kmk_pick_nat _ e]
  simp

theorem d_drop {W : Led} {vs : List Value} {ds : List Dat} (hd : DatAll W vs ds) (j : Nat) : DatAll W (vs.drop j) (ds.drop j) := by
  induction j generalizing vs ds with
  | zero => exact hd
  | succ j ih => cases hd with
    | nil => exact .nil
    | cons _ r => exact ih r
theorem d_take {W : Led} {vs : List Value} {ds : List Dat} (hd : DatAll W vs ds) (j : Nat) : DatAll W (vs.take j) (ds.take j) := by
  induction j generalizing vs ds with
  | zero => exact .nil
  | succ j ih => cases hd with
    | nil => exact .nil
    | cons a r => exact .cons a (ih r)
end
end Mine
end
section
open PySem PySem.W PySem.Calls PyProof.Rows
set_option maxHeartbeats 4000000
namespace Mine
section
variable {w : World} {A : Around} {E : Value → Shared → Prop} {s : Shared} {h₀ h : Heap} {t : Nat} {L : Addr} {l : Loc} {M M₁ M₂ Z : Led} {env : Env}
  {tp : Program} {loose : List Str} {mean : ExcName → Option Value} {mg mb : Str → Option Value} {prog : Program} {a : Addr} {n : Nat} {xs vs : List Value} {ds es : List Dat} {d e : Dat} {v y r : Value} {Q : Value → Shared → Prop}

theorem nofill_tup : fillsNumberSlot (.type "tuple") "mul" = pure false :=
  PySem.fillsNumberSlot_seq (id := "tuple.__mul__") (r := some (.builtin "tuple.__rmul__")) F.slot_tuple_mul.lookup (by decide +kernel) F.slot_tuple_rmul.lookup (by decide +kernel)
theorem repeat_tup : seqRepeat? (.type "tuple") = pure (some (.builtin "tuple.__mul__")) := by
  unfold seqRepeat?
  rw [PySem.seqSlot_of (T := "tuple") (name := "__mul__") (id := "tuple.__mul__") F.slot_tuple_mul.lookup (by decide +kernel), PySem.seqSlot_of (T := "tuple") (name := "__rmul__") (id := "tuple.__rmul__") F.slot_tuple_rmul.lookup (by decide +kernel)]
  rfl
theorem rmul_tup (a : Int) (t : Tok) (l : Addr) (items : Array Value) (n : Nat) :
    Meets (Builtin.«int.__rmul__» ⟨[.int a t, .ref l], []⟩) (fun _ R s => s.heap.get? l = some { cls := .type "tuple", dict := none, data := .seq items n, slots := #[] } ∧ R (.ok (.ret Value.notImplemented)) s) :=
  .of_wp fun prog w A R s h => by obtain ⟨hp, g, d, tk, os⟩ := s; obtain ⟨hl, h⟩ := h; wp_walk; exact ⟨_, rfl, h⟩
theorem mul_tup1 (l : Addr) (items : Array Value) (n : Nat) (u : Tok) :
    Meets (Builtin.«tuple.__mul__» ⟨[.ref l, .int 1 u], []⟩) (fun _ R s => s.heap.get? l = some { cls := .type "tuple", dict := none, data := .seq items n, slots := #[] } ∧ R (.ok (.ret (.ref l))) s) :=
  .of_wp fun prog w A R s h => by obtain ⟨hp, g, d, tk, os⟩ := s; obtain ⟨hl, h⟩ := h; wp_walk; exact ⟨_, rfl, h⟩
theorem mul_tup2 (l : Addr) (x : Value) (n : Nat) (u : Tok) :
    Meets (Builtin.«tuple.__mul__» ⟨[.ref l, .int 2 u], []⟩) (fun _ R s => s.heap.get? l = some { cls := .type "tuple", dict := none, data := .seq #[x] n, slots := #[] } ∧ R (.ok (.ret (.ref s.heap.objs.size))) { s with heap := s.heap.push { cls := .type "tuple", data := .seq #[x, x] } }) :=
  .of_wp fun prog w A R s h => by obtain ⟨hp, g, d, tk, os⟩ := s; obtain ⟨hl, h⟩ := h; wp_walk; exact ⟨_, rfl, h⟩
theorem mul_tup3 (l : Addr) (x : Value) (n : Nat) (u : Tok) :
    Meets (Builtin.«tuple.__mul__» ⟨[.ref l, .int 3 u], []⟩) (fun _ R s => s.heap.get? l = some { cls := .type "tuple", dict := none, data := .seq #[x] n, slots := #[] } ∧ R (.ok (.ret (.ref s.heap.objs.size))) { s with heap := s.heap.push { cls := .type "tuple", data := .seq #[x, x, x] } }) :=
  .of_wp fun prog w A R s h => by obtain ⟨hp, g, d, tk, os⟩ := s; obtain ⟨hl, h⟩ := h; wp_walk; exact ⟨_, rfl, h⟩
theorem r_mulT {x : Value} {c : Nat} {u : Tok} (hc : c = 1 ∨ c = 2 ∨ c = 3) (S : St h₀ L h l M Z) (hm : (a, tO [x] n) ∈ Z) (hx : DatIn Z x d)
    (k : ∀ h' b Z', Sub Z Z' → St h₀ L h' l M Z' → DatIn Z' (.ref b) (.tuple (List.replicate c d)) → Q (.ref b) (up s h' t)) : wpAny (model prog w) A (binaryOp .Mult (.ref a) (.int (c : Int) u)) Q E (up s h t) := by
  have hl := S.getZ hm
  refine wpAny_binaryOp_repeat_ref (T := "tuple") (U := "int") (by decide) ⟨_, hl, rfl⟩ (fun s' => typeIs_int s' _ u) nofill_tup F.fills_int_mul F.slot_int_rmul repeat_tup F.slot_int_index.lookup
    (call_meets F.slot_int_rmul (typeIs_int _ _ u) F.entry_int_rmul (F.args_int_rmul_2 _ _) (rmul_tup _ u a [x].toArray n) ⟨hl, rfl, ⟨_, hl, rfl⟩, ?_⟩)
  rcases hc with rfl | rfl | rfl
  · exact call_meets F.slot_tuple_mul ⟨_, hl, rfl⟩ F.entry_tuple_mul (F.args_tuple_mul_2 _ _) (mul_tup1 a [x].toArray n u) ⟨hl, k h a Z (Sub.refl _) S (.tuple hm (.cons hx .nil))⟩
  · exact call_meets F.slot_tuple_mul ⟨_, hl, rfl⟩ F.entry_tuple_mul (F.args_tuple_mul_2 _ _) (mul_tup2 a x n u) ⟨hl, k _ _ _ (Sub.cons _ _) (S.pushZ (tO [x, x] 0)) (.tuple (n := 0) (.head _) (.cons (hx.mono (Sub.cons _ _)) (.cons (hx.mono (Sub.cons _ _)) .nil)))⟩
  · exact call_meets F.slot_tuple_mul ⟨_, hl, rfl⟩ F.entry_tuple_mul (F.args_tuple_mul_2 _ _) (mul_tup3 a x n u) ⟨hl, k _ _ _ (Sub.cons _ _) (S.pushZ (tO [x, x, x] 0)) (.tuple (n := 0) (.head _) (.cons (hx.mono (Sub.cons _ _)) (.cons (hx.mono (Sub.cons _ _)) (.cons (hx.mono (Sub.cons _ _)) .nil))))⟩
end
end Mine
end
section
open PySem PySem.W PySem.Calls PyProof.Rows
set_option maxHeartbeats 4000000
namespace Mine
section
variable {w : World} {A : Around} {E : Value → Shared → Prop} {s : Shared} {h₀ h : Heap} {t : Nat} {L : Addr} {l : Loc} {M M₁ M₂ Z : Led} {env : Env}
  {tp : Program} {loose : List Str} {mean : ExcName → Option Value} {mg mb : Str → Option Value} {prog : Program} {a : Addr} {n : Nat} {xs vs : List Value} {ds es : List Dat} {d e : Dat} {v y r : Value} {Q : Value → Shared → Prop}

theorem fn_sel (w : World) : FnOk w 114 ["self", "name", "rows"] := ⟨by kernel_rfl!, by kernel_rfl!, by kernel_rfl!, by kernel_rfl!, by kernel_rfl!, by kernel_rfl!, by kernel_rfl!, by kernel_rfl!⟩
theorem bd_sel (w : World) (a b c : Value) : bindArgs (fdAt w 114) ⟨[a, b, c], []⟩ = (pure ((["self", "name", "rows"] : List Str).zip [a, b, c]) : Sem Loc) := by kernel_rfl!
theorem fn_nxt (w : World) : FnOk w 121 ["self", "name", "rows", "signature"] := ⟨by kernel_rfl!, by kernel_rfl!, by kernel_rfl!, by kernel_rfl!, by kernel_rfl!, by kernel_rfl!, by kernel_rfl!, by kernel_rfl!⟩
theorem bd_nxt (w : World) (a b c d : Value) : bindArgs (fdAt w 121) ⟨[a, b, c, d], []⟩ = (pure ((["self", "name", "rows", "signature"] : List Str).zip [a, b, c, d]) : Sem Loc) := by kernel_rfl!

noncomputable def selD : List Ent → Dat
  | [] => .none
  | e :: _ => dTold e
noncomputable def nextL : List Ent → Sig → Option (List Ent)
  | [], _ => none
  | e :: es, sg => if e.2.1 = sg then some es else nextL es sg
noncomputable def nextD (es : List Ent) (sg : Sig) : List Ent := (nextL es sg).getD es
theorem nextL_hit : ∀ {es : List Ent} {sg : Sig} (i : Nat) (hi : i < es.length), (∀ k (hk : k < es.length), k < i → es[k].2.1 ≠ sg) → es[i].2.1 = sg → nextL es sg = some (es.drop (i + 1))
  | e :: es, sg, 0, _, _, h => by
    have h : e.2.1 = sg := h
    rw [nextL, if_pos h]; rfl
  | e :: es, sg, i + 1, hi, h0, h => by
    have h1 : e.2.1 ≠ sg := h0 0 (by simp) (by omega)
    rw [nextL, if_neg h1, nextL_hit i (by simpa using hi) (fun k hk hki => h0 (k + 1) (by simpa using hk) (by omega)) h]; rfl
theorem nextL_none : ∀ {es : List Ent} {sg : Sig}, (∀ k (hk : k < es.length), es[k].2.1 ≠ sg) → nextL es sg = none
  | [], _, _ => rfl
  | e :: es, sg, h => by
    have h1 : e.2.1 ≠ sg := h 0 (by simp)
    rw [nextL, if_neg h1, nextL_none fun k hk => h (k + 1) (by simpa using hk)]

theorem c_sel {x ml : Addr} {u : Tok} {as : List Dat} {rows : List Line} {ms : List (Sig × Str)} {ob : Obj} (B : Base w tp loose mean mg mb h₀) (S : St h₀ L h l (M₁ ++ (104, ob) :: M₂) Z) (R : Rm A 14) (T : TabIn w Z x ml as) (hml : (ml, lO vs n) ∈ M₁ ++ M₂)
    (hms : DatAll Z vs (ms.map dMeth)) (hr : DatIn Z r (dLines rows)) (hlen : ∀ m ∈ ms, m.1.length = rows.length) (nd : (ms.map (·.1)).Nodup) (hmz : ms.length < 64) (hz : rows.length ≤ 1000) (hz2 : ∀ ln ∈ rows, ln.length ≤ 1000) (hT : LamTab lamPos lamQ Z ob)
    (k : ∀ h' t' Z' ob' y (es' : List Ent), Sub Z Z' → St h₀ L h' l (M₁ ++ (104, ob') :: M₂) Z' → LamTab lamPos lamQ Z' ob' → es'.Perm (ents rows ms) → es'.Pairwise (fun a b => ltKey a.1 b.1 = true) → DatIn Z' y (selD es') → Q y (up s h' t')) :
    wpAny (model PG w) A (call (.ref 114) [.ref x, .str "g" u, r]) Q E (up s h t) := by
  refine call_fn [("rows", r), ("name", .str "g" u), ("self", .ref x)] (fn_sel w) (bd_sel w _ _ _) rfl B S R fun g L' h₁ t₁ Bg back S' R' => ?_
  refine wpAny_execs_cons ?_
  walk_at "asn"
  refine MethodCall_ ?_ (by rfl)
  walk_at "nm"
  refine m_inst Bg S' T.inst (by kernel_rfl!) (f := 107) (by kernel_rfl!) (by kernel_rfl!) (by decide +kernel) ?_
  refine cw_m (fn_cand w) Bg (arg2 ?_)
  walk_at "nm"
  walk_at "nm"
  refine ⟨S'.stays', ?_⟩
  refine c_cand Bg S' R'.less T hml hms hr hlen nd hmz hz hz2 hT fun h₂ t₂ Z₁ ob' D es' hs₁ S₂ hT' hp hso hD => ?_
  have hesl : es'.length ≤ 1000 := by
    rw [hp.length_eq]; unfold ents; rw [List.length_map]; exact Nat.le_trans (List.length_filter_le _ _) (by omega)
  refine n_store S₂ (fun h₃ t₃ S₃ => ?_) (by walk_at "ev") (by walk_at "ev") (by walk_at "ev")
  refine wpAny_execs_cons (wpAny_If (wpAny_isTrue_Compare1 ?_ (by walk_at "ev")))
  refine x_bi Bg S₃ (g_len w) b_len ?_ (by walk_at "ev") (by walk_at "ev") (by walk_at "ev") (by walk_at "ev")
  refine arg1 ?_
  walk_at "nm"
  refine r_lenL S₃ hD (by simpa using hesl) fun t₄ u₄ => ?_
  refine e_int fun t₅ => ?_
  refine i_eq (b_truthy ?_)
  cases es' with
  | nil =>
    have e1 : (((([] : List Ent).map dTold).length : Int) == 0) = true := rfl
    rw [e1, if_pos rfl]
    refine wpAny_execs_cons (wpAny_Return_some (e_none ?_))
    exact k _ _ _ _ _ [] hs₁ (back _ _ _ _ _ S₃) hT' hp hso .none
  | cons e es =>
    have e1 : ((((e :: es).map dTold).length : Int) == 0) = false := by simp; omega
    rw [e1, if_neg (by decide)]
    refine wpAny_execs_nil (wpAny_execs_cons (wpAny_Return_some ?_))
    refine Subscript_ ?_
    walk_at "nm"
    refine e_int fun t₆ => ?_
    refine x_L 0 rfl S₃ hD rfl (by simpa using hesl) fun z hz => ?_
    exact k _ _ _ _ _ (e :: es) hs₁ (back _ _ _ _ _ S₃) hT' hp hso hz

theorem c_nxt {x ml : Addr} {u : Tok} {as : List Dat} {rows : List Line} {ms : List (Sig × Str)} {ob : Obj} {sg : Sig} (B : Base w tp loose mean mg mb h₀) (S : St h₀ L h l (M₁ ++ (104, ob) :: M₂) Z) (R : Rm A 14) (T : TabIn w Z x ml as) (hml : (ml, lO vs n) ∈ M₁ ++ M₂)
    (hms : DatAll Z vs (ms.map dMeth)) (hr : DatIn Z r (dLines rows)) (hv : DatIn Z v (dSig sg)) (hlen : ∀ m ∈ ms, m.1.length = rows.length) (nd : (ms.map (·.1)).Nodup) (hmz : ms.length < 64) (hz : rows.length ≤ 1000) (hz2 : ∀ ln ∈ rows, ln.length ≤ 1000) (hT : LamTab lamPos lamQ Z ob) (hsg : SigOk sg) (hok : ∀ m ∈ ms, SigOk m.1)
    (k : ∀ h' t' Z' ob' y (es' : List Ent), Sub Z Z' → St h₀ L h' l (M₁ ++ (104, ob') :: M₂) Z' → LamTab lamPos lamQ Z' ob' → es'.Perm (ents rows ms) → es'.Pairwise (fun a b => ltKey a.1 b.1 = true) → DatIn Z' y (.list ((nextD es' sg).map dTold)) → Q y (up s h' t')) :
    wpAny (model PG w) A (call (.ref 121) [.ref x, .str "g" u, r, v]) Q E (up s h t) := by
  refine call_fn [("signature", v), ("rows", r), ("name", .str "g" u), ("self", .ref x)] (fn_nxt w) (bd_nxt w _ _ _ _) rfl B S R fun g L' h₁ t₁ Bg back S' R' => ?_
  refine wpAny_execs_cons ?_
  walk_at "asn"
  refine MethodCall_ ?_ (by rfl)
  walk_at "nm"
  refine m_inst Bg S' T.inst (by kernel_rfl!) (f := 107) (by kernel_rfl!) (by kernel_rfl!) (by decide +kernel) ?_
  refine cw_m (fn_cand w) Bg (arg2 ?_)
  walk_at "nm"
  walk_at "nm"
  refine ⟨S'.stays', ?_⟩
  refine c_cand Bg S' R'.less T hml hms hr hlen nd hmz hz hz2 hT fun h₂ t₂ Z₁ ob' D es' hs₁ S₂ hT' hp hso hD => ?_
  have hesl : es'.length ≤ 1000 := by
    rw [hp.length_eq]; unfold ents; rw [List.length_map]; exact Nat.le_trans (List.length_filter_le _ _) (by omega)
  have heok : ∀ e ∈ es', SigOk e.2.1 := fun e he => by
    have := hp.mem_iff.mp he
    unfold ents at this
    obtain ⟨m, hm, rfl⟩ := List.mem_map.mp this
    exact hok m (List.mem_filter.mp hm).1
  refine n_store S₂ (fun h₃ t₃ S₃ => ?_) (by walk_at "ev") (by walk_at "ev") (by walk_at "ev")
  refine wpAny_execs_cons (s_for ?_ (by intro _; rfl))
  refine x_ty Bg S₃ (g_range w) b_range ?_ (by walk_at "ev") (by walk_at "ev") (by walk_at "ev") (by walk_at "ev")
  refine arg1 ?_
  refine x_bi Bg S₃ (g_len w) b_len ?_ (by walk_at "ev") (by walk_at "ev") (by walk_at "ev") (by walk_at "ev")
  refine arg1 ?_
  walk_at "nm"
  refine r_lenL S₃ hD (by simpa using hesl) fun tq uq => ?_
  refine r_range S₃ fun h₃ t₃ ra t₄ u₄ v₄ Z₂ S₅ hs₂ hr₁ => ?_
  refine for_range (m := (es'.map dTold).length) (S₅.lc (l' := [("found", .ref D), ("signature", v)]) (by walk_at "lc")) R'.hh hr₁ (by simp; omega)
    (fun i l' M' Z' => l' = ([("found", .ref D), ("signature", v)] : Loc) ∧ M' = M₁ ++ (104, ob') :: M₂ ∧ ∀ k (hk : k < es'.length), k < i → es'[k].2.1 ≠ sg) ⟨rfl, rfl, fun k hk h => by omega⟩ ?_ ?_
  · intro i u₅ l' M' Z' h' t' I o E' him hs hJ₀ S₆ K hK
    obtain ⟨rfl, rfl, hno⟩ := hJ₀
    have hi' : i < es'.length := by simpa using him
    have hsub := hs₂.trans hs
    refine as_name S₆ (fun h₅ t₅ S₇ => ?_) (by walk_at "ev") (by walk_at "ev") (by walk_at "ev")
    refine wpAny_execs_cons (wpAny_If (wpAny_isTrue_Compare1 ?_ (by walk_at "ev")))
    refine Subscript_ (Subscript_ ?_)
    walk_at "nm"
    walk_at "nm"
    refine x_L i rfl S₇ (hD.mono hsub) (d := dTold es'[i]) (by simp [hi']) (by simpa using hesl) fun z hz => ?_
    refine e_int fun t₆ => ?_
    refine x_T 1 rfl S₇ hz rfl (by simp) fun z2 hz2 => ?_
    walk_at "nm"
    refine r_eq (W₁ := Z') (W₂ := Z') S₇ R' hz2 (subZ _ _) (hv.mono (hs₁.trans hsub)) (subZ _ _) (okSig (heok _ (List.getElem_mem hi'))) (okSig hsg) fun bb hb => ?_
    refine b_truthy ?_
    cases bb with
    | true =>
      rw [if_pos rfl]
      have e1 : es'[i].2.1 = sg := dSig_inj (hb.mp rfl)
      refine wpAny_execs_cons (wpAny_Return_some (Subscript_ ?_))
      walk_at "nm"
      refine wpAny_Slice ?_
      show wpAny _ _ (eval _ _) _ _ _
      refine wpAny_BinOp ?_
      walk_at "nm"
      refine e_int fun t₇ => i_add fun u₈ t₈ => ?_
      show wpAny _ _ (pure Value.none) _ _ _
      refine wpAny_pure ?_
      show wpAny _ _ (pure Value.none) _ _ _
      refine wpAny_pure ?_
      obtain ⟨ax, vs', n', rfl2, hm', hd'⟩ := d_list (hD.mono hsub)
      cases rfl2
      have hvl : vs'.length = es'.length := by have := hd'.length; simpa using this
      have ei : ((i : Int) + 1) = ((i + 1 : Nat) : Int) := by omega
      rw [ei]
      refine x_slice (lo := some ((i + 1 : Nat) : Int)) (hi := none) (ws := vs'.drop (i + 1)) S₇ (List.mem_append.mpr (.inr hm')) (.int _ _) .none (pick_from _ _ (by omega)) (by omega) fun h₉ D' S₉ => ?_
      obtain ⟨Z₄, S₁₀, hs₄, hfd⟩ := fz_list S₉ (d_drop hd' (i + 1))
      refine hK _ _ (k _ _ _ _ _ es' (hs₁.trans (hsub.trans hs₄)) (back _ _ _ _ _ S₁₀.tail) (hT'.mono (hsub.trans hs₄)) hp hso ?_)
      have : nextD es' sg = es'.drop (i + 1) := by unfold nextD; rw [nextL_hit i hi' hno e1]; rfl
      rw [this, List.map_drop]; exact hfd
    | false =>
      rw [if_neg (by decide)]
      have e1 : es'[i].2.1 ≠ sg := fun e => by
        have := hb.mpr (by rw [e])
        cases this
      refine wpAny_execs_nil (wpAny_execs_nil (hK _ _ <| TurnE.next (Sub.refl _) (S₇.lc (by walk_at "lc")) ⟨rfl, rfl, fun k hk h => ?_⟩))
      rcases Nat.lt_succ_iff_lt_or_eq.mp h with h | h
      · exact hno k hk h
      · subst h; exact e1
  · rintro l' M' Z' h' t' hs ⟨rfl, rfl, hno⟩ S₆
    have hsub := hs₂.trans hs
    refine wpAny_execs_cons (wpAny_Return_some ?_)
    walk_at "nm"
    refine k _ _ _ _ _ es' (hs₁.trans hsub) (back _ _ _ _ _ S₆) (hT'.mono hsub) hp hso ?_
    have : nextD es' sg = es' := by unfold nextD; rw [nextL_none fun k hk => hno k hk (by simpa using hk)]; rfl
    rw [this]; exact hD.mono hsub
end
end Mine
end
section
open PySem PySem.W PySem.Calls PyProof.Rows
namespace Mine

/-- the methods entered, in the order of their first entry -/
noncomputable def msOf (ent : List (Sig × Str)) : List (Sig × Str) := ent.foldl (fun ms m => setM ms m.1 m.2) []
theorem msOf_snoc (ent : List (Sig × Str)) (m : Sig × Str) : msOf (ent ++ [m]) = setM (msOf ent) m.1 m.2 := by simp [msOf]
theorem mem_setM {ms : List (Sig × Str)} {sg : Sig} {f : Str} {x : Sig × Str} (h : x ∈ setM ms sg f) : x ∈ ms ∨ x = (sg, f) := by
  induction ms with
  | nil => exact .inr (List.mem_singleton.mp h)
  | cons m ms ih =>
    rw [setM] at h
    split at h
    · rcases List.mem_cons.mp h with h | h
      · exact .inr h
      · exact .inl (.tail _ h)
    · rcases List.mem_cons.mp h with rfl | h
      · exact .inl (.head _)
      · rcases ih h with h | h
        · exact .inl (.tail _ h)
        · exact .inr h
theorem setM_keys {ms : List (Sig × Str)} {sg : Sig} {f : Str} (nd : (ms.map (·.1)).Nodup) : ((setM ms sg f).map (·.1)).Nodup := by
  induction ms with
  | nil => simp [setM]
  | cons m ms ih =>
    rw [List.map_cons, List.nodup_cons] at nd
    rw [setM]
    split
    · rename_i e
      rw [List.map_cons, List.nodup_cons, ← e]; exact nd
    · rename_i e
      rw [List.map_cons, List.nodup_cons]
      refine ⟨fun h => ?_, ih nd.2⟩
      obtain ⟨x, hx, ex⟩ := List.mem_map.mp h
      rcases mem_setM hx with hx | rfl
      · exact nd.1 (List.mem_map.mpr ⟨x, hx, ex⟩)
      · exact e ex.symm
theorem fold_facts {P : Sig × Str → Prop} : ∀ (ent ms : List (Sig × Str)), (ms.map (·.1)).Nodup → (∀ m ∈ ms, P m) → (∀ m ∈ ent, P m) →
    (((ent.foldl (fun ms m => setM ms m.1 m.2) ms).map (·.1)).Nodup ∧ (∀ m ∈ ent.foldl (fun ms m => setM ms m.1 m.2) ms, P m) ∧ (ent.foldl (fun ms m => setM ms m.1 m.2) ms).length ≤ ms.length + ent.length)
  | [], ms, h1, h2, _ => ⟨h1, h2, by simp⟩
  | e :: ent, ms, h1, h2, h3 => by
    have := fold_facts ent (setM ms e.1 e.2) (setM_keys h1) (fun m hm => by
      rcases mem_setM hm with h | rfl
      · exact h2 m h
      · exact h3 (e.1, e.2) (.head _)) fun m hm => h3 m (.tail _ hm)
    refine ⟨this.1, this.2.1, Nat.le_trans this.2.2 ?_⟩
    have := setM_len ms e.1 e.2
    simp; (first | lia | omega)
theorem msOf_nodup (ent : List (Sig × Str)) : ((msOf ent).map (·.1)).Nodup := (fold_facts (P := fun _ => True) ent [] List.nodup_nil (by simp) (fun _ _ => trivial)).1
theorem msOf_all {P : Sig × Str → Prop} {ent : List (Sig × Str)} (h : ∀ m ∈ ent, P m) : ∀ m ∈ msOf ent, P m := (fold_facts ent [] List.nodup_nil (by simp) h).2.1
theorem msOf_len (ent : List (Sig × Str)) : (msOf ent).length ≤ ent.length := by
  have := (fold_facts (P := fun _ => True) ent [] List.nodup_nil (by simp) (fun _ _ => trivial)).2.2
  unfold msOf; simpa using this

/-- two sorted lists of the same things -/
theorem sorted_same {α : Type} {lt : α → α → Bool} (asym : ∀ a b, lt a b = true → lt b a = false) {x y : List α} (hp : x.Perm y) (hx : x.Pairwise fun a b => lt a b = true) (hy : y.Pairwise fun a b => lt a b = true) : x = y :=
  hp.eq_of_pairwise (fun a b _ _ h1 h2 => by have := asym a b h1; rw [h2] at this; cases this) hx hy

theorem ents_perm {rows : List Line} {a b : List (Sig × Str)} (h : a.Perm b) : (ents rows a).Perm (ents rows b) := (h.filter _).map _
theorem ents_sigs (rows : List Line) (ms : List (Sig × Str)) : (ents rows ms).map (·.2.1) = (ms.map (·.1)).filter fun sg => fits rows sg := by
  unfold ents
  induction ms with
  | nil => rfl
  | cons m ms ih =>
    rw [List.map_cons, List.filter_cons, List.filter_cons]
    by_cases hf : fits rows m.1 = true
    · rw [if_pos hf, if_pos hf, List.map_cons, List.map_cons, ih]; rfl
    · rw [if_neg hf, if_neg hf, ih]
theorem mem_ents {rows : List Line} {ms : List (Sig × Str)} {e : Ent} (h : e ∈ ents rows ms) : ∃ m ∈ ms, fits rows m.1 = true ∧ e = entOf rows m := by
  obtain ⟨m, hm, rfl⟩ := List.mem_map.mp h
  exact ⟨m, (List.mem_filter.mp hm).1, (List.mem_filter.mp hm).2, rfl⟩

theorem before_key (rows : List Line) (a b : Sig) : before rows a b = ltKey (tot rows a, plc rows a) (tot rows b, plc rows b) := by
  unfold before ltKey
  by_cases h : tot rows a = tot rows b
  · rw [if_neg (by simpa using h), if_pos h]
  · rw [if_pos h, if_neg h]
theorem ltKey_irrefl (a : Key) : ltKey a a = false := by
  rw [← Bool.not_eq_true]; intro h
  have := ltKey_asym h
  rw [h] at this; cases this
/-- candidates stand in the order of their keys -/
theorem order_of {es : List Ent} (hs : es.Pairwise fun a b => ltKey a.1 b.1 = true) {i j : Nat} (hi : i < es.length) (hj : j < es.length) : ltKey es[i].1 es[j].1 = decide (i < j) := by
  rcases Nat.lt_trichotomy i j with h | h | h
  · rw [decide_eq_true h]; exact List.pairwise_iff_getElem.mp hs i j hi hj h
  · subst h; rw [decide_eq_false (Nat.lt_irrefl _)]; exact ltKey_irrefl _
  · rw [decide_eq_false (by (first | lia | omega))]; exact ltKey_asym (List.pairwise_iff_getElem.mp hs j i hj hi h)

theorem sum_le : ∀ {a b : List Int}, a.length = b.length → (∀ k (h1 : k < a.length) (h2 : k < b.length), a[k] ≤ b[k]) → a.sum ≤ b.sum
  | [], [], _, _ => Int.le_refl _
  | [], _ :: _, h, _ => by simp at h
  | _ :: _, [], h, _ => by simp at h
  | x :: a, y :: b, hl, h => by
    have h0 : x ≤ y := h 0 (by simp) (by simp)
    have := sum_le (a := a) (b := b) (by simpa using hl) fun k h1 h2 => h (k + 1) (by simpa using h1) (by simpa using h2)
    simp; (first | lia | omega)
theorem lexI_le : ∀ {a b : List Int}, a.length = b.length → (∀ k (h1 : k < a.length) (h2 : k < b.length), a[k] ≤ b[k]) → lexI b a = false
  | [], [], _, _ => rfl
  | [], _ :: _, h, _ => by simp at h
  | _ :: _, [], h, _ => by simp at h
  | x :: a, y :: b, hl, h => by
    have h0 : x ≤ y := h 0 (by simp) (by simp)
    unfold lexI
    by_cases e : y = x
    · rw [if_neg (by simpa using e)]
      exact lexI_le (by simpa using hl) fun k h1 h2 => h (k + 1) (by simpa using h1) (by simpa using h2)
    · rw [if_pos e]; simp; (first | lia | omega)
/-- a method none of whose classes stands later is not behind -/
theorem some_later {rows : List Line} {a b : Sig} (ha : fits rows a = true) (hb : fits rows b = true) (la : a.length = rows.length) (lb : b.length = rows.length) (hok : ∀ ln ∈ rows, LineOk ln) (hlt : ltKey (tot rows b, plc rows b) (tot rows a, plc rows a) = true) :
    ∃ k, ∃ (h1 : k < (plc rows a).length) (h2 : k < (plc rows b).length), (plc rows b)[k] < (plc rows a)[k] := by
  have pa : (plc rows a).length = rows.length := by simp [plc]; (first | lia | omega)
  have pb : (plc rows b).length = rows.length := by simp [plc]; (first | lia | omega)
  apply Decidable.byContradiction
  intro hno
  have hle : ∀ k (h1 : k < (plc rows a).length) (h2 : k < (plc rows b).length), (plc rows a)[k] ≤ (plc rows b)[k] := fun k h1 h2 => by
    rcases Int.lt_or_le (plc rows b)[k] (plc rows a)[k] with h | h
    · exact absurd ⟨k, h1, h2, h⟩ hno
    · exact h
  have htot : tot rows a ≤ tot rows b := by
    unfold tot
    refine sum_le (by simp [dst]; (first | lia | omega)) fun k h1 h2 => ?_
    have hk : k < rows.length := by simp [dst] at h1; (first | lia | omega)
    have ka : k < a.length := by (first | lia | omega)
    have kb : k < b.length := by (first | lia | omega)
    obtain ⟨i, hi, e1, _, d1⟩ := placeI_some (fits_at ha hk ka)
    obtain ⟨j, hj, e2, _, d2⟩ := placeI_some (fits_at hb hk kb)
    have := hle k (by (first | lia | omega)) (by (first | lia | omega))
    simp only [plc, List.getElem_zipWith] at this
    rw [e1, e2] at this
    simp only [dst, List.getElem_zipWith, d1, d2]
    have hij : i ≤ j := by (first | lia | omega)
    rcases Nat.lt_or_ge i j with h | h
    · exact List.pairwise_iff_getElem.mp (hok _ (List.getElem_mem hk)).mono i j hi hj h
    · have : i = j := by (first | lia | omega)
      subst this; exact Int.le_refl _
  unfold ltKey at hlt
  dsimp only at hlt
  by_cases e : tot rows b = tot rows a
  · rw [if_pos e] at hlt
    rw [lexI_le (by (first | lia | omega)) hle] at hlt; cases hlt
  · rw [if_neg e] at hlt
    have := of_decide_eq_true hlt
    first | lia | omega

theorem next_of {es : List Ent} (nd : (es.map (·.2.1)).Nodup) {i : Nat} (hi : i < es.length) : nextD es es[i].2.1 = es.drop (i + 1) := by
  unfold nextD
  rw [nextL_hit i hi (fun k hk hki e => ?_) rfl]
  · rfl
  · have := (List.getElem_inj (xs := es.map (·.2.1)) (h₀ := by simpa using hk) (h₁ := by simpa using hi) nd).mp (by simpa using e)
    first | lia | omega
theorem next_none {es : List Ent} {sg : Sig} (h : ∀ e ∈ es, e.2.1 ≠ sg) : nextD es sg = es := by
  unfold nextD; rw [nextL_none fun k hk => h _ (List.getElem_mem hk)]; rfl

/-- the methods entered anew by their sorted signatures -/
theorem again_of {ms : List (Sig × Str)} (nd : (ms.map (·.1)).Nodup) {sgs : List Sig} (hp : sgs.Perm (ms.map (·.1))) : ∃ ms' : List (Sig × Str), ms'.map (·.1) = sgs ∧ ms'.Perm ms ∧ (∀ m ∈ ms', m ∈ ms) := by
  let g : Sig → Sig × Str := fun sg => ((ms.find? fun m => decide (m.1 = sg)).getD default)
  have hg : ∀ m ∈ ms, g m.1 = m := fun m hm => by
    show (ms.find? fun m' => decide (m'.1 = m.1)).getD default = m
    cases q : ms.find? fun m' => decide (m'.1 = m.1) with
    | none => have := List.find?_eq_none.mp q m hm; simp at this
    | some m' =>
      have h1 := List.mem_of_find?_eq_some q
      have h2 : m'.1 = m.1 := by simpa using List.find?_some q
      obtain ⟨i, hi, rfl⟩ := List.getElem_of_mem h1
      obtain ⟨j, hj, rfl⟩ := List.getElem_of_mem hm
      have := (List.getElem_inj (xs := ms.map (·.1)) (h₀ := by simpa using hi) (h₁ := by simpa using hj) nd).mp (by simpa using h2)
      subst this; rfl
  have e1 : (ms.map (·.1)).map g = ms := by
    rw [List.map_map]
    have : ms.map (g ∘ fun m => m.1) = ms.map id := List.map_congr_left fun m hm => hg m hm
    rw [this]; simp
  have hp2 : (sgs.map g).Perm ms := by have := hp.map g; rwa [e1] at this
  refine ⟨sgs.map g, ?_, hp2, fun m hm => hp2.mem_iff.mp hm⟩
  rw [List.map_map]
  have : sgs.map ((fun m : Sig × Str => m.1) ∘ g) = sgs.map id := List.map_congr_left fun sg hsg => by
    obtain ⟨m, hm, rfl⟩ := List.mem_map.mp (hp.mem_iff.mp hsg)
    show (g m.1).1 = m.1
    rw [hg m hm]
  rw [this]; simp
end Mine
end
section
open PySem PySem.W PySem.Calls PyProof.Rows
set_option maxHeartbeats 4000000
namespace Mine
section
variable {w : World} {A : Around} {E : Value → Shared → Prop} {s : Shared} {h₀ h : Heap} {t : Nat} {L : Addr} {l : Loc} {M M₁ M₂ Z : Led} {env : Env}
  {tp : Program} {loose : List Str} {mean : ExcName → Option Value} {mg mb : Str → Option Value} {prog : Program} {a : Addr} {n : Nat} {xs vs : List Value} {ds es : List Dat} {d e : Dat} {v y r : Value} {Q : Value → Shared → Prop}

noncomputable abbrev E2 (elt t0 i0 t1 i1 : Expr) (scope : Scope) (pos : Pos) : Expr := .ListComp elt [⟨t0, i0, [], 0⟩, ⟨t1, i1, [], 0⟩] scope pos
section
variable {elt t0 i0 t1 i1 : Expr} {scope : Scope} {pos : Pos} {it acc : Value} {R : Result → Shared → Prop}
theorem turn1 : compTurn (E2 elt t0 i0 t1 i1 scope pos) 1 it acc env = (standAt i1.pos >>= fun _ => pyNext it >>= fun r => match r with
      | none => pure (.done .next)
      | some v => letOwnedTupleGo t1 it v >>= fun _ => assign t1 env v >>= fun _ =>
        (eval elt env >>= fun x => call (.builtin "list.append") [acc, x] >>= fun _ => pure ()) >>= fun _ =>
          again (.compLoop (E2 elt t0 i0 t1 i1 scope pos) 1 it acc env)) := by rfl
theorem turn0 : compTurn (E2 elt t0 i0 t1 i1 scope pos) 0 it acc env = (standAt i0.pos >>= fun _ => pyNext it >>= fun r => match r with
      | none => pure (.done .next)
      | some v => letOwnedTupleGo t0 it v >>= fun _ => assign t0 env v >>= fun _ =>
        eval i1 env >>= fun x => standAt i1.pos >>= fun _ => foldedSetIterable i1 env x >>= fun x => holding [x] (pyIter x) >>= fun y => runOwn (.compStart (E2 elt t0 i0 t1 i1 scope pos) 1 y acc env) env >>= fun _ =>
          again (.compLoop (E2 elt t0 i0 t1 i1 scope pos) 0 it acc env)) := by rfl
theorem enter1 : (model prog w).den (.compStart (E2 elt t0 i0 t1 i1 scope pos) 1 it acc env) = (ask >>= fun st =>
    if st.params.followText "comprehension-iter-twice" then again (.compLoop (E2 elt t0 i0 t1 i1 scope pos) 1 it acc env)
    else rule "comprehension.iter-twice" >>= fun _ => standAt i1.pos >>= fun _ => pyIter it >>= fun y => again (.compLoop (E2 elt t0 i0 t1 i1 scope pos) 1 y acc env)).onRaise (fun x => do noteFrame x env; standAt theWindowsPlace) := by
  show (compStart _ _ _ _ _).onRaise _ = _
  congr 1
theorem start1 {s : Shared} (h0 : codeAny (model prog w) A (.compLoop (E2 elt t0 i0 t1 i1 scope pos) 1 it acc env) R s)
    (h : wpAny (model prog w) A (pyIter it) (fun it' s' => codeAny (model prog w) A (.compLoop (E2 elt t0 i0 t1 i1 scope pos) 1 it' acc env) R s') (notedBy (model prog w) A env fun x s' => R (.error x) s') s) :
    codeAny (model prog w) A (.compStart (E2 elt t0 i0 t1 i1 scope pos) 1 it acc env) R s := by
  refine codeAny_of_tree ?_
  rw [enter1]
  refine wpAny_notedAt (wpAny_bind (wpAny_askSetting (wpAny_ite ?_)))
  by_cases q : w.params.followText "comprehension-iter-twice" = true
  · exact (if_pos q).mpr (wpAny_pure ⟨rfl, h0⟩)
  · refine (if_neg q).mpr (wpAny_bind (wpAny_rule (wpAny_bind (wpAny_standAt (wpAny_bind ?_)))))
    exact wpAny_mono h (fun _ _ c => wpAny_pure ⟨rfl, c⟩) fun _ _ x => x
end

inductive InnI (s : Shared) (h₀ : Heap) (I D ax N : Nat) (vs : Array Value) (n : Nat) (M Z : Led) : Nat → Shared → Prop
  | mk (j : Nat) (h' : Heap) (t' : Nat) (l' : Loc) (acc : List Value) (kD : Nat) (as : List Int) (o : Obj) : j ≤ N → (h'.IsListIter I ax j ∧ h'.IsList ax vs) → IntsAre acc as → acc.length = n + j → St h₀ L h' l' ((I, o) :: (D, lO acc kD) :: M) Z → InnI s h₀ I D ax N vs n M Z (N + 1 - j) (up s h' t')
/-- the inner clause: the ints of one list are appended -/
theorem inner_ints {t0 i0 i1 : Expr} {x1 : Str} {p1 p2 : Pos} {scope : Scope} {pos : Pos} {D : Addr} {kD : Nat} {acc : List Value} {as ns : List Int} {R : Result → Shared → Prop} (S : St h₀ L h l ((D, lO acc kD) :: M) Z) (hh : A.handled = none)
    (hv : DatIn Z v (.list (ns.map .int))) (ha : IntsAre acc as) (hz : acc.length + ns.length ≤ 1000) (hL : env.locals = L) (hkind : env.scope.kind = .function) (hx : env.kindOf x1 = some .local) (hd : (x1 == ("__debug__" : Str)) = false)
    (k : ∀ h' t' l' acc' kD' as', IntsAre acc' as' → acc'.length = acc.length + ns.length → St h₀ L h' l' ((D, lO acc' kD') :: M) Z → R (.ok .next) (up s h' t')) :
    wpAny (model prog w) A (pyIter v) (fun y s' => codeAny (model prog w) A (.compStart (E2 (.Name x1 p2) t0 i0 (.Name x1 p1) i1 scope pos) 1 y (.ref D) env) R s') E (up s h t) := by
  obtain ⟨ax, vs, n, rfl, hm, hdd⟩ := d_list hv
  have hl : h.IsList ax vs.toArray := ⟨_, S.getZ hm, rfl, n, rfl⟩
  refine wpAny_pyIter_list hl ?_
  have hlt := Heap.lt_size (S.getZ hm)
  have W := Walks.list (prog := prog) (w := w) hh h.objs.size ax (Nat.ne_of_lt hlt) vs.toArray
  have hvl : vs.length = ns.length := by have := hdd.length; simpa using this
  have hlen : vs.toArray.size = ns.length := by simp [hvl]
  rw [hlen] at W
  have S1 := S.push { cls := .type "list_iterator", data := .fields #[.ref ax, .int 0 0] }
  have st0 : (h.push { cls := .type "list_iterator", data := .fields #[.ref ax, .int 0 0] }).IsListIter h.objs.size ax 0 ∧ (h.push { cls := .type "list_iterator", data := .fields #[.ref ax, .int 0 0] }).IsList ax vs.toArray :=
    ⟨⟨_, Heap.get?_push_size _ rfl, rfl, rfl⟩, hl.at fun o e => Heap.get?_push_of_some _ e⟩
  show codeAny (model prog w) A (.compStart _ 1 (.ref h.objs.size) (.ref D) env) R (up s (h.push { cls := .type "list_iterator", data := .fields #[.ref ax, .int 0 0] }) t)
  generalize h.push { cls := .type "list_iterator", data := .fields #[.ref ax, .int 0 0] } = h1 at S1 st0
  generalize h.objs.size = I at S1 st0 W hlt
  have loop : codeAny (model prog w) A (.compLoop (E2 (.Name x1 p2) t0 i0 (.Name x1 p1) i1 scope pos) 1 (.ref I) (.ref D) env) R (up s h1 t) := by
    refine codeAny_loop rfl (InnI (L := L) s h₀ I D ax ns.length vs.toArray acc.length M Z) ?_ (ns.length + 1)
      (.mk 0 h1 t l acc kD as _ (Nat.zero_le _) st0 ha rfl S1)
    intro q s' hk₀
    cases hk₀ with | mk j h' t' l' acc' kD' as' o hj hst hacc hal S' => ?_
    show wpAny _ A ((compTurn (E2 (.Name x1 p2) t0 i0 (.Name x1 p1) i1 scope pos) 1 (.ref I) (.ref D) env).onRaise (fun x => do noteFrame x env; theTreesLotGoes x)) _ _ (up s h' t')
    refine wpAny_noted ?_
    rw [turn1]
    refine wpAny_bind (wpAny_standAt (wpAny_bind ?_))
    by_cases hlt2 : j < ns.length
    · refine W.item j _ _ _ hlt2 hst fun u h₃ tk₃ hP hst₃ hk₃ => ?_
      have hk₃' : Heap.ExtBut I h' h₃ := fun b ob hb e => hk₃ b ob (by simpa using hb) e
      obtain ⟨⟨o₃, ho₃, _⟩, _⟩ := id hst₃
      have S₃ : St h₀ L h₃ l' ((I, o₃) :: (D, lO acc' kD') :: M) Z := St.updE (M₁ := []) S' hk₃' ho₃
      obtain ⟨hvi, hdi⟩ := d_get hdd (k := j) (by simpa using hlt2)
      have hu : u = vs[j] := by
        have hP' : vs[j]? = some u := by simpa using hP
        rw [List.getElem?_eq_getElem hvi] at hP'
        exact (Option.some.inj hP').symm
      subst hu
      have hdi' : DatIn Z vs[j] (.int ns[j]) := by simpa using hdi
      obtain ⟨tk, eu⟩ := d_int hdi'
      dsimp only
      refine wpAny_bind (wpAny_of_eq (a := ()) rfl ?_)
      refine wpAny_bind (as_name S₃ (fun h₄ t₄ S₄ => ?_) hL hkind hx)
      refine wpAny_bind (wpAny_bind (e_loc S₄ lk_here ?_ hL hkind hx hd))
      refine wpAny_bind (r_append (M₁ := [(I, o₃)]) S₄ (by (first | lia | omega)) fun h₅ S₅ => ?_)
      refine wpAny_pure (wpAny_pure ⟨rfl, ns.length + 1 - (j + 1), by (first | lia | omega), .mk (j + 1) h₅ _ _ (acc' ++ [vs[j]]) _ (as' ++ [ns[j]]) o₃ hlt2 ?_ ?_ (by simp; (first | lia | omega)) S₅⟩)
      · refine W.frame _ _ _ hst₃ fun b hb ob e => ?_
        rcases List.mem_cons.mp hb with rfl | hb
        · rw [ho₃] at e; cases e; exact S₅.getM (.head _)
        · rw [List.mem_singleton.mp hb] at e ⊢
          rw [S₃.getZ hm] at e; cases e; exact S₅.getZ hm
      · rw [eu]; exact IntsAre.append hacc (.cons _ _ .nil)
    · have hjN : j = ns.length := by (first | lia | omega)
      subst hjN
      refine W.done _ _ _ hst fun h₃ tk₃ hk₃ => ?_
      have hk₃' : Heap.ExtBut I h' h₃ := fun b ob hb e => hk₃ b ob (by simpa using hb) e
      exact wpAny_pure (k h₃ tk₃ l' acc' kD' as' hacc hal (S'.dropE hk₃'))
  exact start1 loop (W.self 0 _ _ _ st0 loop)
end
end Mine
end
section
open PySem PySem.W PySem.Calls PyProof.Rows
set_option maxHeartbeats 4000000
namespace Mine
section
variable {w : World} {A : Around} {E : Value → Shared → Prop} {s : Shared} {h₀ h : Heap} {t : Nat} {L : Addr} {l : Loc} {M M₁ M₂ Z : Led} {env : Env}
  {tp : Program} {loose : List Str} {mean : ExcName → Option Value} {mg mb : Str → Option Value} {prog : Program} {a : Addr} {n : Nat} {xs vs : List Value} {ds es : List Dat} {d e : Dat} {v y r : Value} {Q : Value → Shared → Prop}

inductive FlatI (s : Shared) (g : Heap) (C I D ax N : Nat) (vs : Array Value) (M Z : Led) : Nat → Shared → Prop
  | mk (j : Nat) (h' : Heap) (t' : Nat) (l' : Loc) (acc : List Value) (as : List Int) (kD : Nat) (o : Obj) : j ≤ N → (h'.IsListIter I ax j ∧ h'.IsList ax vs) → IntsAre acc as → acc.length ≤ 12 * j → St g C h' l' ((D, lO acc kD) :: (I, o) :: M) Z → FlatI s g C I D ax N vs M Z (N + 1 - j) (up s h' t')
inductive FlatE (s : Shared) (g : Heap) (C D : Addr) (it : Addr × Obj) (n : Nat) (M Z : Led) : Result → Shared → Prop
  | mk (h' : Heap) (t' : Nat) (l' : Loc) (acc : List Value) (kD : Nat) (as : List Int) : IntsAre acc as → acc.length = n → St g C h' l' ((D, lO acc kD) :: it :: M) Z → FlatE s g C D it n M Z (.ok .next) (up s h' t')
theorem comp_flat {x0 x1 : Str} {q0 q1 p1 p2 : Pos} {i0 : Expr} {scope : Scope} {pos : Pos} {use : Option (Value → Sem Unit)} {pss : List (List Int)} (S : St h₀ L h l M Z) (hh : A.handled = none) (hv : DatIn Z v (.list (pss.map dInts))) (hN : pss.length ≤ 45) (h12 : ∀ ps ∈ pss, ps.length ≤ 12)
    (hcell : (scope.names.all fun y => y.2 != .cell) = true) (hkind : scope.kind = .function) (hx0 : scope.names.lookup x0 = some .local) (hx1 : scope.names.lookup x1 = some .local) (hd0 : (x0 == ("__debug__" : Str)) = false) (hd1 : (x1 == ("__debug__" : Str)) = false)
    (done : ∀ C oC D acc as kD h' t', IntsAre acc as → acc.length ≤ 1000 → CDone prog w A E s h₀ L l use Q (C, oC) (D, lO acc kD) M Z h' t') :
    wpAny (model prog w) A (pyIter v) (CompP prog w A env (E2 (.Name x1 p2) (.Name x0 q0) i0 (.Name x1 p1) (.Name x0 q1) scope pos) scope [] use Q E) E (up s h t) := by
  obtain ⟨ax, vs, n, rfl, hm, hdd⟩ := d_list hv
  have hl : h.IsList ax vs.toArray := ⟨_, S.getZ hm, rfl, n, rfl⟩
  refine wpAny_pyIter_list hl ?_
  have hlt := Heap.lt_size (S.getZ hm)
  have W := Walks.list (prog := prog) (w := w) hh h.objs.size ax (Nat.ne_of_lt hlt) vs.toArray
  have hvl : vs.length = pss.length := by have := hdd.length; simpa using this
  have hlen : vs.toArray.size = pss.length := by simp [hvl]
  rw [hlen] at W
  have S0 := S.push { cls := .type "list_iterator", data := .fields #[.ref ax, .int 0 0] }
  have st0 : (h.push { cls := .type "list_iterator", data := .fields #[.ref ax, .int 0 0] }).IsListIter h.objs.size ax 0 ∧ (h.push { cls := .type "list_iterator", data := .fields #[.ref ax, .int 0 0] }).IsList ax vs.toArray :=
    ⟨⟨_, Heap.get?_push_size _ rfl, rfl, rfl⟩, hl.at fun o e => Heap.get?_push_of_some _ e⟩
  show CompP prog w A env _ scope [] use Q E (.ref h.objs.size) (up s (h.push { cls := .type "list_iterator", data := .fields #[.ref ax, .int 0 0] }) t)
  generalize h.push { cls := .type "list_iterator", data := .fields #[.ref ax, .int 0 0] } = h0 at S0 st0
  generalize h.objs.size = I at S0 st0 W hlt
  unfold CompP
  refine r_list S0 (by simp) fun h₁ D S₁ => ?_
  obtain ⟨g, st, hsz, hgh, hn, hgL, back⟩ := S₁.ground
  refine wpAny_newFunctionEnv (fun x hx => by have := List.all_eq_true.mp hcell x hx; simpa using this) (by intro y hy; simp at hy) (fun h₂ hns hsb => ?_) hkind
  dsimp only at hns hsb ⊢
  generalize hC : h₁.objs.size = C at hns hsb ⊢
  have old : ∀ b o, h₁.get? b = some o → h₂.get? b = some o := fun b o e => hsb.extBut b o (hC ▸ Nat.ne_of_lt (Heap.lt_size e)) (Heap.get?_push_of_some _ e)
  have S₂ : St g C h₂ [] ((D, lO [] 0) :: (I, _) :: M) Z := S₁.newFrame hsz hgh hn hns (Nat.le_of_eq hC) old fun x v e => by cases e
  have hst₂ : h₂.IsListIter I ax 0 ∧ h₂.IsList ax vs.toArray := by
    refine W.frame _ _ _ st0 fun b hb ob e => ?_
    rcases List.mem_cons.mp hb with rfl | hb
    · rw [S0.getM (.head _)] at e; cases e; exact S₂.getM (.tail _ (.head _))
    · rw [List.mem_singleton.mp hb] at e ⊢
      rw [S0.getZ hm] at e; cases e; exact S₂.getZ hm
  have gC : g.get? C = none := by
    cases q : g.get? C with
    | none => rfl
    | some o => exact absurd (Heap.lt_size q) (by rw [hsz, hC]; exact Nat.lt_irrefl _)
  have kx0 : (compEnvC scope [] C env).kindOf x0 = some .local := lookup_relabel_local hx0
  have kx1 : (compEnvC scope [] C env).kindOf x1 = some .local := lookup_relabel_local hx1
  have ks : (compEnvC scope [] C env).scope.kind = .function := by simp [compEnvC, relabel, hkind]
  have loop : codeAny (model prog w) A (.compLoop (E2 (.Name x1 p2) (.Name x0 q0) i0 (.Name x1 p1) (.Name x0 q1) scope pos) 0 (.ref I) (.ref D) (compEnvC scope [] C env)) (compPost (model prog w) A E use Q (.ref D) C) (up s h₂ (t + ([] : List (Str × Value)).length)) := by
    refine codeAny_loop rfl (FlatI s g C I D ax pss.length vs.toArray M Z) ?_ (pss.length + 1)
      (.mk 0 h₂ _ [] [] [] 0 _ (Nat.zero_le _) hst₂ .nil (Nat.le_refl _) S₂)
    intro q s' hk₀
    cases hk₀ with | mk j h' t' l' acc as kD o hj hst hacc hal S' => ?_
    show wpAny _ A ((compTurn (E2 (.Name x1 p2) (.Name x0 q0) i0 (.Name x1 p1) (.Name x0 q1) scope pos) 0 (.ref I) (.ref D) (compEnvC scope [] C env)).onRaise (fun x => do noteFrame x (compEnvC scope [] C env); theTreesLotGoes x)) _ _ (up s h' t')
    refine wpAny_noted ?_
    rw [turn0]
    refine wpAny_bind (wpAny_standAt (wpAny_bind ?_))
    by_cases hlt2 : j < pss.length
    · refine W.item j _ _ _ hlt2 hst fun u h₃ tk₃ hP hst₃ hk₃ => ?_
      have hk₃' : Heap.ExtBut I h' h₃ := fun b ob hb e => hk₃ b ob (by simpa using hb) e
      obtain ⟨⟨o₃, ho₃, _⟩, _⟩ := id hst₃
      have S₃ : St g C h₃ l' ((D, lO acc kD) :: (I, o₃) :: M) Z := St.updE (M₁ := [(D, lO acc kD)]) S' hk₃' ho₃
      obtain ⟨hvi, hdi⟩ := d_get hdd (k := j) (by simpa using hlt2)
      have hu : u = vs[j] := by
        have hP' : vs[j]? = some u := by simpa using hP
        rw [List.getElem?_eq_getElem hvi] at hP'
        exact (Option.some.inj hP').symm
      subst hu
      have hdi' : DatIn Z vs[j] (.list (pss[j].map .int)) := by simpa using hdi
      have h12j := h12 _ (List.getElem_mem hlt2)
      dsimp only
      refine wpAny_bind (wpAny_of_eq (a := ()) rfl ?_)
      refine wpAny_bind (as_name S₃ (fun h₄ t₄ S₄ => ?_) rfl ks kx0)
      refine wpAny_bind (e_loc S₄ lk_here ?_ rfl ks kx0 hd0)
      refine wpAny_bind (wpAny_standAt (wpAny_bind (wpAny_of_eq (a := vs[j]) rfl ?_)))
      refine wpAny_bind (wpAny_holding ?_)
      refine wpAny_mono (inner_ints (t0 := .Name x0 q0) (i0 := i0) (i1 := .Name x0 q1) (p1 := p1) (p2 := p2) (scope := scope) (pos := pos) (E := notedBy (model prog w) A (compEnvC scope [] C env) fun e s' => compPost (model prog w) A E use Q (.ref D) C (.error e) s') (env := compEnvC scope [] C env) (R := FlatE s g C D (I, o₃) (acc.length + pss[j].length) M Z) S₄ hh hdi' hacc (by (first | lia | omega)) rfl ks kx1 hd1
        fun h' t' l' acc' kD' as' a1 a2 S5 => .mk h' t' l' acc' kD' as' a1 a2 S5) (fun y s₅ h₅ => ?_) fun _ _ e => e
      refine wpAny_bind (wpAny_runOwn (codeAny_mono h₅ fun r s₆ h₆ => ?_))
      cases h₆ with | mk h₇ t₇ l₇ acc' kD' as' a1 a2 S₇ => ?_
      refine wpAny_pure ⟨rfl, pss.length + 1 - (j + 1), by (first | lia | omega), .mk (j + 1) h₇ t₇ l₇ acc' as' kD' o₃ hlt2 ?_ a1 (by (first | lia | omega)) S₇⟩
      refine W.frame _ _ _ hst₃ fun b hb ob e => ?_
      rcases List.mem_cons.mp hb with rfl | hb
      · rw [ho₃] at e; cases e; exact S₇.getM (.tail _ (.head _))
      · rw [List.mem_singleton.mp hb] at e ⊢
        rw [S₃.getZ hm] at e; cases e; exact S₇.getZ hm
    · have hjN : j = pss.length := by (first | lia | omega)
      subst hjN
      refine W.done _ _ _ hst fun h₃ tk₃ hk₃ => wpAny_pure ?_
      have hk₃' : Heap.ExtBut I h' h₃ := fun b ob hb e => hk₃ b ob (by simpa using hb) e
      exact comp_end back gC ((S'.perm (M' := (I, o) :: (D, lO acc kD) :: M) (List.Perm.swap _ _ _)).dropE hk₃') fun oC => done C oC D acc as kD h₃ tk₃ hacc (by (first | lia | omega))
  refine codeAny_compStart_list loop ?_
  exact W.self 0 _ _ _ hst₂ loop
end
end Mine
end
section
open PySem PySem.W PySem.Calls PyProof.Rows
set_option maxHeartbeats 4000000
namespace Mine
section
variable {w : World} {A : Around} {E : Value → Shared → Prop} {s : Shared} {h₀ h : Heap} {t : Nat} {L : Addr} {l : Loc} {M M₁ M₂ Z : Led} {env : Env}
  {tp : Program} {loose : List Str} {mean : ExcName → Option Value} {mg mb : Str → Option Value} {prog : Program} {a : Addr} {n : Nat} {xs vs : List Value} {ds es : List Dat} {d e : Dat} {v y r : Value} {Q : Value → Shared → Prop}

theorem call_fnG {f : Addr} {ps : List Str} {args : List Value} {n : Nat} (l₁ : Loc) (F : FnOk w f ps) (hb : bindArgs (fdAt w f) ⟨args, []⟩ = (pure (ps.zip args) : Sem Loc)) (hl : l₁ = (ps.zip args).reverse)
    (B : Base w tp loose mean mg mb h₀) (S : St h₀ L h l M Z) (R : Rm A (n + 1))
    (k : ∀ g L' h₁ t₁, Base w tp loose mean mg mb g → (∀ L'' h' l' M' Z', St g L'' h' l' M' Z' → St h₀ L h' l M' Z') → h₀.StaysIn g → St g L' h₁ l₁ M Z → Rm (A.deeper (envAt w f L')) n →
      wpAny (model prog w) (A.deeper (envAt w f L')) (execs (bdAt w f) (envAt w f L')) (fun fl s' => Q (match fl with | .ret v => v | _ => .none) s') (fun _ _ => False) (up s h₁ t₁)) :
    wpAny (model prog w) A (call (.ref f) args) Q E (up s h t) := by
  subst hl
  obtain ⟨g, st, hsz, hgh, hn, back⟩ := S.enter
  have Xs := B.X.keeps S.stays
  refine wpAny_call (codeAny_call_def (fd := fdAt w f) (body := bdAt w f) (binds := ps.zip args) R.room (Xs _ _ F.look) rfl (B.T.nolimit.keeps S.stays) (codeRec_of Xs F.code) F.body (BindsTo.of_eq hb)
    (fun x hx => by have := List.all_eq_true.mp F.cell x hx; simpa using this)
    (fun x hx => by have := List.all_eq_true.mp F.loc x.1 (List.of_mem_zip hx).1; exact of_decide_eq_true this) (fun h₁ hns hk₁ => ?_) F.co F.gen F.kind)
  have S' := S.newFrame (l' := (ps.zip args).reverse) hsz hgh hn hns (Nat.le_refl _) hk₁ fun x v e => e
  exact wpAny_mono (k g _ h₁ _ (B.keeps st) back st S' R.deeper) (fun fl s' q => q) fun _ _ e => e.elim

theorem x_sliceG {ax : Addr} {value slice : Expr} {vl vu : Value} {lo hi : Option Int} {ws : List Value} (S : St h₀ L h l M Z) (hl : h.IsList ax vs.toArray) (pl : IsPart vl lo) (pu : IsPart vu hi) (he : slicePick vs.toArray lo hi none = ws.toArray) (hz : vs.length ≤ 1000)
    (k : ∀ h' D, St h₀ L h' l ((D, lO ws 0) :: M) Z → Q (.ref D) (up s h' t))
    (hs : ∀ a i, subscripted slice false (.ref a) (.ref i) = operate [.ref i, .ref a] (getItem (.ref a) (.ref i)) := by intro _ _; with_unfolding_all rfl) :
    wpAny (model prog w) A (subscriptTail value slice (.ref ax) (.ref h.objs.size)) Q E (up s (h.push (slO vl vu)) t) := by
  have S1 := S.push (slO vl vu)
  have hl := hl.push (slO vl vu)
  refine tail_any (Heap.IsList.typeIs (s := up s (h.push (slO vl vu)) t) hl) slot_list_getitem.lookup ?_ (hs _ _)
  refine wpAny_getItem_list_slice (s := up s (h.push (slO vl vu)) t) hl (Heap.IsSliceOf.new ..) pl pu .none (by simp) ?_ (by rw [List.size_toArray, sizeLine_eq]; (first | lia | omega))
  rw [he]
  exact k _ _ (S1.tail.push (lO ws 0))

theorem i_fdiv {i : Int} {p q : Tok} (k : ∀ u t', Q (.int (i.fdiv 100) u) (up s h t')) : wpAny (model prog w) A (binaryOp .FloorDiv (.int i p) (.int 100 q)) Q E (up s h t) :=
  PyProof.Rows.floordiv_int (by decide) (k _ _) (Or.inl (PyProof.noPylong_small (by (first | lia | omega))))

theorem fn_coins (w : World) : FnOk w 147 ["script"] := ⟨by kernel_rfl!, by kernel_rfl!, by kernel_rfl!, by kernel_rfl!, by kernel_rfl!, by kernel_rfl!, by kernel_rfl!, by kernel_rfl!⟩
theorem bd_coins (w : World) (a : Value) : bindArgs (fdAt w 147) ⟨[a], []⟩ = (pure ((["script"] : List Str).zip [a]) : Sem Loc) := by kernel_rfl!

inductive CoinsJ (ca : Addr) (M : Led) (i : Nat) (l' : Loc) (M' Z' : Led) : Prop
  | mk (cs : List Value) (c : Nat) (pss : List (List Int)) : l' = ([("coins", .ref ca)] : Loc) → M' = (ca, lO cs c) :: M → DatAll Z' cs (pss.map dInts) → pss.length = i → (∀ ps ∈ pss, ps.length ≤ 12) → CoinsJ ca M i l' M' Z'
inductive PurseJ (ca pa I : Addr) (o : Obj) (cs : List Value) (c : Nat) (M Z₀ : Led) (i : Nat) (l' : Loc) (M' Z' : Led) : Prop
  | mk (rv : Int) (u : Tok) (ps : List Value) (c' : Nat) (pn : List Int) : l' = ([("rest", .int rv u), ("purse", .ref pa), ("coins", .ref ca)] : Loc) → M' = (pa, lO ps c') :: (I, o) :: (ca, lO cs c) :: M → Z' = Z₀ → IntsAre ps pn → pn.length + i = 12 → PurseJ ca pa I o cs c M Z₀ i l' M' Z'
theorem c_coins {sa : Addr} {ns : List Int} (B : Base w tp loose mean mg mb h₀) (S : St h₀ L h l M Z) (R : Rm A 5) (hsa : h₀.IsList sa vs.toArray) (hi : IntsAre vs ns) (hz : vs.length ≤ 63)
    (k : ∀ h' t' Z' c xs ns' n', Sub Z Z' → IntsAre xs ns' → xs.length ≤ 1000 → St h₀ L h' l ((c, lO xs n') :: M) Z' → Q (.ref c) (up s h' t')) :
    wpAny (model prog w) A (call (.ref 147) [.ref sa]) Q E (up s h t) := by
  refine call_fnG [("script", .ref sa)] (fn_coins w) (bd_coins w _) rfl B S R fun g L' h₁ t₁ Bg back st S' R' => ?_
  refine wpAny_execs_cons ?_
  walk_at "asn"
  refine List_ (args_nil ?_)
  refine r_list S' (by decide) (fun h₂ ca S₂ => ?_)
  refine n_store S₂ (fun h₃ t₃ S₃ => ?_) (by walk_at "ev") (by walk_at "ev") (by walk_at "ev")
  refine wpAny_execs_cons (s_for ?_ (by intro _; rfl))
  refine Subscript_ ?_
  walk_at "nm"
  refine wpAny_Slice ?_
  show wpAny _ _ (pure Value.none) _ _ _
  refine wpAny_pure ?_
  show wpAny _ _ (eval _ _) _ _ _
  refine e_int fun t₄ => ?_
  show wpAny _ _ (pure Value.none) _ _ _
  refine wpAny_pure ?_
  refine x_sliceG (lo := none) (hi := some ((45 : Nat) : Int)) (ws := vs.take 45) S₃ (hsa.at fun o e => S₃.stays _ _ (st _ _ e)) .none (.int _ _) (pick_upto _ 45) (by (first | lia | omega)) fun h₅ D S₅ => ?_
  have S₆ := S₅.freeze
  have hD : DatIn ((D, lO (vs.take 45) 0) :: Z) (.ref D) (.list ((ns.take 45).map .int)) := .list (.head _) (datInts (hi.take 45))
  have hlen : (ns.take 45).length ≤ 45 := by rw [List.length_take]; (first | lia | omega)
  refine for_list (S₆.lc (l' := [("coins", .ref ca)]) (by walk_at "lc")) R'.hh hD
    (CoinsJ ca M) ⟨[], 0, [], rfl, rfl, .nil, rfl, by simp⟩ ?_ ?_
  · intro i x l' M' Z' h' t' I o E' hii hx hs hJ₀ S₇ K hK
    obtain ⟨cs, c, pss, rfl, rfl, hcs, hpl, h12⟩ := hJ₀
    have hi' : i < (ns.take 45).length := by simpa using hii
    obtain ⟨tk, rfl⟩ := d_int (i := (ns.take 45)[i]) (by simpa using hx)
    generalize (ns.take 45)[i] = cv
    have hcl : cs.length = pss.length := by have := hcs.length; simpa using this
    refine as_name S₇ (fun h₈ t₈ S₈ => ?_) (by walk_at "ev") (by walk_at "ev") (by walk_at "ev")
    refine wpAny_execs_cons ?_
    walk_at "asn"
    refine List_ (arg1 (wpAny_BinOp (wpAny_BinOp ?_)))
    refine x_bi Bg S₈ (g_abs w) b_abs ?_ (by walk_at "ev") (by walk_at "ev") (by walk_at "ev") (by walk_at "ev")
    refine arg1 ?_
    walk_at "nm"
    refine i_abs fun u₉ t₉ => ?_
    refine e_int fun t₁₀ => i_mod (by decide) fun u₁₁ t₁₁ => ?_
    refine wpAny_mono (Q := fun v s' => ∃ (z : Int) (u : Tok) (t' : Nat), v = .int z u ∧ s' = up s h₈ t') ?_ (fun v s' hv => ?_) fun _ _ e => e
    · refine wpAny_IfExp (wpAny_isTrue_Compare1 ?_ (by walk_at "ev"))
      walk_at "nm"
      refine e_int fun t₁₂ => i_ge (b_truthy ?_)
      by_cases hq : (0 : Int) ≤ cv
      · rw [decide_eq_true hq, if_pos rfl]
        exact e_int fun t' => ⟨_, _, _, rfl, rfl⟩
      · rw [decide_eq_false hq, if_neg (by decide)]
        exact e_int fun t' => ⟨_, _, _, rfl, rfl⟩
    obtain ⟨z, uz, tz, rfl, rfl⟩ := hv
    refine i_add fun u₁₃ t₁₃ => ?_
    refine r_list S₈ (by simp) (fun h₉ pa S₉ => ?_)
    refine n_store S₉ (fun h₁₀ t₁₄ S₁₀ => ?_) (by walk_at "ev") (by walk_at "ev") (by walk_at "ev")
    refine wpAny_execs_cons ?_
    walk_at "asn"
    refine wpAny_BinOp ?_
    refine x_bi Bg S₁₀ (g_abs w) b_abs ?_ (by walk_at "ev") (by walk_at "ev") (by walk_at "ev") (by walk_at "ev")
    refine arg1 ?_
    walk_at "nm"
    refine i_abs fun u₁₅ t₁₅ => ?_
    refine e_int fun t₁₆ => i_fdiv fun u₁₇ t₁₇ => ?_
    refine n_store S₁₀ (fun h₁₁ t₁₈ S₁₁ => ?_) (by walk_at "ev") (by walk_at "ev") (by walk_at "ev")
    refine wpAny_execs_cons ?_
    refine s_while (PurseJ ca pa I o cs c M Z') 11
      (S₁₁.lc (l' := [("rest", .int _ u₁₇), ("purse", .ref pa), ("coins", .ref ca)]) (by walk_at "lc")) ⟨_, _, _, _, [_], rfl, rfl, rfl, .cons _ _ .nil, rfl⟩ ?_
    intro q l' M' Zc h' t' E₂ hsz hJ₀ S₁₂ KW G hW hG
    obtain ⟨rv, ru, ps, c', pn, rfl, rfl, rfl, hps, hpq⟩ := hJ₀
    have hpsl : ps.length = pn.length := hps.length
    refine wpAny_mono (Q := fun b s' => (∃ t'' : Nat, s' = up s h' t'') ∧ (b = true → ps.length < 12)) ?_ ?_ fun _ _ e => e
    · refine isTrue_and (wpAny_isTrue_Compare1 ?_ (by walk_at "ev"))
      walk_at "nm"
      refine e_int fun t₁₉ => i_gt (b_truthy ?_)
      by_cases hr : (0 : Int) < rv
      · rw [decide_eq_true hr, if_pos rfl]
        refine isTrue_and (wpAny_isTrue_Compare1 ?_ (by walk_at "ev"))
        refine x_bi Bg S₁₂ (g_len w) b_len ?_ (by walk_at "ev") (by walk_at "ev") (by walk_at "ev") (by walk_at "ev")
        refine arg1 ?_
        walk_at "nm"
        refine r_lenM S₁₂ (xs := ps) (n := c') (by simp) (by (first | lia | omega)) fun t₂₀ u₂₀ => ?_
        refine e_int fun t₂₁ => i_lt (b_truthy ?_)
        by_cases hl12 : ((ps.length : Nat) : Int) < 12
        · rw [decide_eq_true hl12, if_pos rfl]
          exact isTrue_and_nil ⟨⟨_, rfl⟩, fun _ => by (first | lia | omega)⟩
        · rw [decide_eq_false hl12, if_neg (by decide)]
          exact ⟨⟨_, rfl⟩, fun e => by cases e⟩
      · rw [decide_eq_false hr, if_neg (by decide)]
        exact ⟨⟨_, rfl⟩, fun e => by cases e⟩
    rintro b s' ⟨⟨t'', rfl⟩, hb⟩
    cases b with
    | true =>
      have hb := hb rfl
      rw [if_pos rfl]
      refine wpAny_execs_cons (wpAny_Expr (MethodCall_ ?_ (by rfl)))
      walk_at "nm"
      refine m_list (S₁₂.getM (o := lO ps c') (by simp)) rfl rfl F.slot_list_append F.type_list_append ?_
      refine callWith_method1 (arg1 (wpAny_BinOp ?_))
      walk_at "nm"
      refine e_int fun t₂₂ => i_mod (by decide) fun u₂₃ t₂₃ => ?_
      refine r_append (M₁ := []) S₁₂ (by (first | lia | omega)) fun h₂₄ S₂₄ => ?_
      refine wpAny_execs_cons ?_
      walk_at "asn"
      refine wpAny_BinOp ?_
      refine e_loc S₂₄ (by walk_at "lk") ?_ (by walk_at "ev") (by walk_at "ev") (by walk_at "ev")
      refine e_int fun t₂₅ => i_fdiv fun u₂₆ t₂₆ => ?_
      refine n_store S₂₄ (fun h₂₇ t₂₇ S₂₇ => ?_) (by walk_at "ev") (by walk_at "ev") (by walk_at "ev")
      exact wpAny_execs_nil (hW h₂₇ t₂₇ _ _ _ (q - 1) (by (first | lia | omega)) (Sub.refl _) ⟨_, u₂₆, _, _, pn ++ [_], rfl, rfl, rfl, IntsAre.append hps (.cons _ _ .nil), by simp; (first | lia | omega)⟩ (S₂₇.lc (by walk_at "lc")))
    | false =>
      rw [if_neg (by decide)]
      refine hG h' t'' _ _ _ (Sub.refl _) S₁₂ ?_
      have S₁₃ := S₁₂.freeze
      have hpu : DatIn ((pa, lO ps c') :: Zc) (.ref pa) (dInts pn) := .list (.head _) ((datInts hps).mono (Sub.cons _ _))
      refine wpAny_execs_cons (wpAny_Expr (MethodCall_ ?_ (by rfl)))
      walk_at "nm"
      refine m_list (S₁₃.getM (o := lO cs c) (by simp)) rfl rfl F.slot_list_append F.type_list_append ?_
      refine callWith_method1 (arg1 ?_)
      walk_at "nm"
      refine r_append (M₁ := [(I, o)]) S₁₃ (by (first | lia | omega)) fun h₁₄ S₁₄ => ?_
      refine wpAny_execs_nil (hK _ _ <| TurnE.next (Sub.cons _ _) (S₁₄.lc (l' := [("coins", .ref ca)]) (by walk_at "lc")) ⟨_, _, pss ++ [pn], rfl, rfl, ?_, by simp [hpl], fun ps' hp => ?_⟩)
      · rw [List.map_append]; exact d_snoc (hcs.mono (Sub.cons _ _)) hpu
      · rcases List.mem_append.mp hp with hp | hp
        · exact h12 ps' hp
        · rw [List.mem_singleton.mp hp]; (first | lia | omega)
  · rintro l' M' Z' h' t' hs ⟨cs, c, pss, rfl, rfl, hcs, hpl, h12⟩ S₇
    have S₈ := S₇.freeze
    have hc : DatIn ((ca, lO cs c) :: Z') (.ref ca) (.list (pss.map dInts)) := .list (.head _) (hcs.mono (Sub.cons _ _))
    refine wpAny_execs_cons ?_
    refine s_comp (cl := []) (by walk_at "ev") (by walk_at "ev") (by walk_at "ev") (by walk_at "ev") (by intro _; rfl) ?_
    walk_at "nm"
    refine comp_flat S₈ R'.hh hc (by simp at hpl; (first | lia | omega)) h12 (by walk_at "ev") (by walk_at "ev") (by walk_at "ev") (by walk_at "ev") (by decide +kernel) (by decide +kernel) fun C oC D' acc as kD h'' t'' hacc hal => ?_
    intro S₉
    refine as_name S₉ (fun h₁₀ t₁₀ S₁₀ => ?_) (by walk_at "ev") (by walk_at "ev") (by walk_at "ev")
    refine ⟨h₁₀, t₁₀, _, _, _, rfl, S₁₀, fun h₁₁ S₁₁ => ?_⟩
    refine wpAny_execs_cons (wpAny_Expr (MethodCall_ ?_ (by rfl)))
    walk_at "nm"
    refine m_list (S₁₁.getM (o := lO acc kD) (by simp)) rfl rfl F.slot_list_reverse F.type_list_reverse ?_
    refine callWith_method0 ?_
    refine r_reverse (M₁ := []) S₁₁ (by (first | lia | omega)) fun h₁₂ S₁₂ => ?_
    refine wpAny_execs_cons (wpAny_Return_some ?_)
    refine e_loc S₁₂ (by walk_at "lk") ?_ (by walk_at "ev") (by walk_at "ev") (by walk_at "ev")
    exact k _ _ _ D' acc.reverse as.reverse _ ((Sub.cons _ _).trans (hs.trans (Sub.cons _ _))) (PyProof.Rows.IntsAre.reverse hacc) (by simpa using hal) (back _ _ _ _ _ S₁₂)
end
end Mine
end
section
open PySem PySem.W PySem.Calls PyProof.Rows
set_option maxHeartbeats 4000000
namespace Mine
section
variable {w : World} {A : Around} {E : Value → Shared → Prop} {s : Shared} {h₀ h : Heap} {t : Nat} {L : Addr} {l : Loc} {M M₁ M₂ Z : Led} {env : Env}
  {tp : Program} {loose : List Str} {mean : ExcName → Option Value} {mg mb : Str → Option Value} {prog : Program} {a : Addr} {n : Nat} {xs vs : List Value} {ds es : List Dat} {d e : Dat} {v y r : Value} {Q : Value → Shared → Prop}
noncomputable abbrev stAt (w : World) (k : Nat) : Stmt := (bdAt w 183).getD k default
noncomputable abbrev lawEnv (w : World) (L fa : Addr) (cd : Value) : Env := envOfC "law" (fdAt w 183).scope L fa cd
theorem law_body (w : World) : bdAt w 183 = [stAt w 0, stAt w 1, stAt w 2, stAt w 3, stAt w 4, stAt w 5, stAt w 6, stAt w 7, stAt w 8, stAt w 9, stAt w 10, stAt w 11, stAt w 12, stAt w 13, stAt w 14, stAt w 15, stAt w 16, stAt w 17, stAt w 18, stAt w 19, stAt w 20] := by kernel_rfl!

variable {fa : Addr} {cd : Value} {Q : Flow → Shared → Prop}

theorem seg0 {M₀ : Led} {sa : Addr} {ns : List Int} {oc : Obj} {v₀ : Option Value} (B : Base w tp loose mean mg mb h₀) (S : St h₀ L h [("script", .ref sa)] ((L + 1, oc) :: M₀) Z) (R : Rm A 20) (hoc : oc.data = .cell v₀) (hsa : h₀.IsList sa vs.toArray) (hi : IntsAre vs ns) (hz : vs.length ≤ 63)
    (k : ∀ h' t' Z' ca xs ns' n oc', Sub Z Z' → IntsAre xs ns' → xs.length ≤ 1000 → oc'.data = .cell (some (.ref ca)) → St h₀ L h' [] ((ca, lO xs n) :: (L + 1, oc') :: M₀) Z' → Q .next (up s h' t')) :
    wpAny (model PG w) A (exec (stAt w 0) (lawEnv w L fa cd)) Q E (up s h t) := by
  walk_at "asn"
  refine x_def B S (g_coins w) (k_147 w) ?_ (by walk_at "ev") (by walk_at "ev") (by walk_at "ev")
  refine arg1 ?_
  walk_at "nm"
  refine ⟨B.at S, ?_⟩
  refine c_coins B S R.less hsa hi hz fun h₂ t₂ Z₂ ca xs ns' n hs₂ hi₂ hz₂ S₂ => ?_
  refine n_storeC (M₁ := [(ca, lO xs n)]) S₂ (by walk_at "ev") hoc (fun h₃ oc' hoc' S₃ => ?_) (by walk_at "ev") (by walk_at "ev")
  exact k _ _ _ ca xs ns' n oc' hs₂ hi₂ hz₂ hoc' (S₃.lc trivial)

theorem seg1 {M₀ : Led} {ca : Addr} {ns : List Int} {oc : Obj} (B : Base w tp loose mean mg mb h₀) (S : St h₀ L h l ((ca, lO xs n) :: (L + 1, oc) :: M₀) Z) (R : Rm A 20) (hoc : oc.data = .cell (some (.ref ca))) (hi : IntsAre xs ns) (hz : xs.length ≤ 1000)
    (k : ∀ h' t' xs' ns' n' (c : Nat) u, 1 ≤ c → c ≤ 3 → IntsAre xs' ns' → xs'.length ≤ 1000 → St h₀ L h' [("count", .int (c : Int) u)] ((ca, lO xs' n') :: (L + 1, oc) :: M₀) Z → Q .next (up s h' t')) :
    wpAny (model PG w) A (exec (stAt w 1) (lawEnv w L fa cd)) Q E (up s h t) := by
  walk_at "asn"
  refine wpAny_BinOp (e_int fun t₂ => ?_)
  refine x_def B S (g_coin w) (k_154 w) ?_ (by walk_at "ev") (by walk_at "ev") (by walk_at "ev")
  refine arg2 ?_
  refine e_cell S (c := L + 1) (o := oc) (by walk_at "ev") (by simp) hoc ?_ (by walk_at "ev") (by walk_at "ev")
  refine e_int fun t₃ => ⟨B.at S, ?_⟩
  refine c_coin (M₁ := []) B S R.less hi hz (by decide) fun h₄ t₄ xs₁ ns₁ n₁ m u₁ m0 m3 hi₁ hz₁ S₄ => ?_
  refine i_add fun u₂ t₅ => ?_
  obtain ⟨m, rfl⟩ : ∃ k : Nat, m = (k : Int) := ⟨m.toNat, by (first | lia | omega)⟩
  rw [show (1 : Int) + (m : Int) = ((1 + m : Nat) : Int) by (first | lia | omega)]
  refine n_store S₄ (fun h₅ t₆ S₅ => ?_) (by walk_at "ev") (by walk_at "ev") (by walk_at "ev")
  exact k _ _ xs₁ ns₁ n₁ (1 + m) u₂ (by (first | lia | omega)) (by (first | lia | omega)) hi₁ hz₁ (S₅.lc (by walk_at "lc"))

inductive LinesJ (L ca : Addr) (oc ol : Obj) (M₀ : Led) (i : Nat) (acc : List Value) (M' Z' : Led) : Prop
  | mk (xs : List Value) (ns : List Int) (n : Nat) (lns : List Line) : M' = (ca, lO xs n) :: (L + 1, oc) :: (L + 1 + 1, ol) :: M₀ → IntsAre xs ns → xs.length ≤ 1000 → DatAll Z' acc (lns.map dLine) → lns.length = i → (∀ ln ∈ lns, LineOk ln) → LinesJ L ca oc ol M₀ i acc M' Z'
theorem seg2 {M₀ : Led} {ca : Addr} {ns : List Int} {oc ol : Obj} {c : Nat} {u : Tok} {v₀ : Option Value} (B : Base w tp loose mean mg mb h₀) (S : St h₀ L h [("count", .int (c : Int) u)] ((ca, lO xs n) :: (L + 1, oc) :: (L + 1 + 1, ol) :: M₀) Z) (R : Rm A 20) (hoc : oc.data = .cell (some (.ref ca))) (hol : ol.data = .cell v₀) (hi : IntsAre xs ns) (hz : xs.length ≤ 1000) (hc : c ≤ 3)
    (k : ∀ h' t' Z' xs' ns' n' ol' lv lns, Sub Z Z' → IntsAre xs' ns' → xs'.length ≤ 1000 → lns.length = c → (∀ ln ∈ lns, LineOk ln) → DatIn Z' lv (dLines lns) → ol'.data = .cell (some lv) → St h₀ L h' [("count", .int (c : Int) u)] ((ca, lO xs' n') :: (L + 1, oc) :: (L + 1 + 1, ol') :: M₀) Z' → Q .next (up s h' t')) :
    wpAny (model PG w) A (exec (stAt w 2) (lawEnv w L fa cd)) Q E (up s h t) := by
  walk_at "asn"
  refine e_comp (cl := [("coins", L + 1)]) (by walk_at "ev") (by walk_at "ev") (by walk_at "ev") (by intro _; rfl) ?_
  refine x_ty B S (g_range w) b_range ?_ (by walk_at "ev") (by walk_at "ev") (by walk_at "ev") (by walk_at "ev")
  refine arg1 ?_
  walk_at "nm"
  refine r_range S fun h₃ t₃ ra t₄ u₄ v₄ Z₁ S₃ hs₁ hr₁ => ?_
  refine comp_range (m := c) S₃ R.hh hr₁ (by (first | lia | omega)) (by walk_at "ev") (by walk_at "ev") (by walk_at "ev")
    (LinesJ L ca oc ol M₀) ⟨xs, ns, n, [], rfl, hi, hz, .nil, rfl, by simp⟩ ?_ ?_
  · intro g' C D I j u' acc kD M' Z' h' t' o' E' hg' hj hs' hJ₀ hal S₆ K hK
    obtain ⟨xs, ns, n, lns, rfl, hi, hz, hacc, hll, hok⟩ := hJ₀
    show wpAny _ _ _ _ _ _
    refine x_def (B.keeps hg') S₆ (g_line w) (k_161 w) ?_ (by walk_at "ev") (by walk_at "ev") (by walk_at "ev")
    refine arg1 ?_
    refine e_cell S₆ (c := L + 1) (o := oc) (by walk_at "ev") (by simp) hoc ?_ (by walk_at "ev") (by walk_at "ev")
    refine ⟨(B.keeps hg').at S₆, ?_⟩
    refine c_line (M₁ := [(D, lO acc kD), (I, o')]) (B.keeps hg') S₆ R.less hi hz fun h₇ t₇ Z₇ xs₇ ns₇ n₇ x ln hs₇ hi₇ hz₇ S₇ hln hx => ?_
    refine hK _ _ <| CompE.mk hs₇ S₇ ⟨xs₇, ns₇, n₇, lns ++ [ln], rfl, hi₇, hz₇, ?_, by simp [hll], fun l' hl' => ?_⟩
    · rw [List.map_append]; exact d_snoc (hacc.mono hs₇) hx
    · rcases List.mem_append.mp hl' with hl' | hl'
      · exact hok l' hl'
      · rw [List.mem_singleton.mp hl']; exact hln
  · rintro C oC D acc kD M' Z' h'' t'' hs' ⟨xs, ns, n, lns, rfl, hi, hz, hacc, hll, hok⟩ hal
    intro h₇ S₇
    refine n_storeC (M₁ := [(D, lO acc kD), (ca, lO xs n), (L + 1, oc)]) S₇ (by walk_at "ev") hol (fun h₈ ol' hol' S₈ => ?_) (by walk_at "ev") (by walk_at "ev")
    obtain ⟨Z₃, S₉, hs₃, hfd⟩ := fz_list (ds := lns.map dLine) S₈ hacc
    exact k _ _ Z₃ xs ns n ol' _ lns (hs₁.trans (hs'.trans hs₃)) hi hz hll hok hfd hol' S₉

theorem seg3 {c : Nat} {u : Tok} {M₀ : Led} (S : St h₀ L h [("count", .int (c : Int) u)] M₀ Z)
    (k : ∀ h' t' ea, St h₀ L h' [("entered", .ref ea), ("count", .int (c : Int) u)] ((ea, lO [] 0) :: M₀) Z → Q .next (up s h' t')) :
    wpAny (model PG w) A (exec (stAt w 3) (lawEnv w L fa cd)) Q E (up s h t) := by
  walk_at "asn"
  refine List_ (args_nil ?_)
  refine r_list S (by decide) (fun h₂ ea S₂ => ?_)
  exact n_store S₂ (fun h₃ t₃ S₃ => k _ _ ea S₃) (by walk_at "ev") (by walk_at "ev") (by walk_at "ev")
end
end Mine
end
section
open PySem PySem.W PySem.Calls PyProof.Rows
set_option maxHeartbeats 4000000
namespace Mine
section
variable {w : World} {A : Around} {E : Value → Shared → Prop} {s : Shared} {h₀ h : Heap} {t : Nat} {L : Addr} {l : Loc} {M M₁ M₂ Z : Led} {env : Env}
  {tp : Program} {loose : List Str} {mean : ExcName → Option Value} {mg mb : Str → Option Value} {prog : Program} {a : Addr} {n : Nat} {xs vs : List Value} {ds es : List Dat} {d e : Dat} {v y r : Value} {Q : Value → Shared → Prop}
variable {fa : Addr} {cd : Value} {Q : Flow → Shared → Prop}

noncomputable abbrev menu : Sig := ["A", "B", "ANY", "C", "Z"]
noncomputable def MOk (c : Nat) (m : Sig × Str) : Prop := m.1.length = c ∧ (∀ x ∈ m.1, x ∈ menu) ∧ PyData.strOk m.2 = true
theorem menu_ok : ∀ x ∈ menu, PyData.strOk x = true := by decide +kernel
theorem MOk.sig {c : Nat} {m : Sig × Str} (h : MOk c m) : SigOk m.1 := fun x hx => menu_ok x (h.2.1 x hx)
noncomputable abbrev fnName (i : Nat) : Str := ("fn" : Str) ++ Str.ofString (toString (i : Int))
theorem fn_ok : ∀ i : Nat, i < 8 → PyData.strOk (fnName i) = true := by decide +kernel
theorem fn_len : ∀ i : Nat, i < 8 → (Str.ofString (toString (i : Int))).length ≤ 100 := by decide +kernel

inductive EntJ (L ea ca : Addr) (c : Nat) (u : Tok) (oc : Obj) (M₀ : Led) (i : Nat) (l' : Loc) (M' Z' : Led) : Prop
  | mk (es : List Value) (n₁ : Nat) (xs : List Value) (ns : List Int) (n₂ : Nat) (ent : List (Sig × Str)) : l' = ([("entered", .ref ea), ("count", .int (c : Int) u)] : Loc) → M' = (ea, lO es n₁) :: (ca, lO xs n₂) :: (L + 1, oc) :: M₀ → IntsAre xs ns → xs.length ≤ 1000 → DatAll Z' es (ent.map dMeth) → ent.length = i → (∀ m ∈ ent, MOk c m) → EntJ L ea ca c u oc M₀ i l' M' Z'
inductive SigJ (L ea ca I : Addr) (o : Obj) (es : List Value) (n₁ : Nat) (oc : Obj) (M₀ : Led) (i : Nat) (acc : List Value) (M' Z' : Led) : Prop
  | mk (xs : List Value) (ns : List Int) (n₂ : Nat) (sg : Sig) : M' = (I, o) :: (ea, lO es n₁) :: (ca, lO xs n₂) :: (L + 1, oc) :: M₀ → IntsAre xs ns → xs.length ≤ 1000 → DatAll Z' acc (sg.map .str) → sg.length = i → (∀ x ∈ sg, x ∈ menu) → SigJ L ea ca I o es n₁ oc M₀ i acc M' Z'
theorem seg4 {M₀ : Led} {ca ea : Addr} {ns : List Int} {oc : Obj} {c : Nat} {u : Tok} (B : Base w tp loose mean mg mb h₀) (S : St h₀ L h [("entered", .ref ea), ("count", .int (c : Int) u)] ((ea, lO [] 0) :: (ca, lO xs n) :: (L + 1, oc) :: M₀) Z) (R : Rm A 20) (hoc : oc.data = .cell (some (.ref ca))) (hi : IntsAre xs ns) (hz : xs.length ≤ 1000) (hc : c ≤ 3)
    (k : ∀ h' t' Z' es n₁ xs' n' ent, Sub Z Z' → DatAll Z' es ((ent : List (Sig × Str)).map dMeth) → ent.length < 8 → (∀ m ∈ ent, MOk c m) → St h₀ L h' [("entered", .ref ea), ("count", .int (c : Int) u)] ((ea, lO es n₁) :: (ca, lO xs' n') :: (L + 1, oc) :: M₀) Z' → Q .next (up s h' t')) :
    wpAny (model PG w) A (exec (stAt w 4) (lawEnv w L fa cd)) Q E (up s h t) := by
  refine s_for ?_ (by intro _; rfl)
  refine x_ty B S (g_range w) b_range ?_ (by walk_at "ev") (by walk_at "ev") (by walk_at "ev") (by walk_at "ev")
  refine arg1 ?_
  refine x_def B S (g_coin w) (k_154 w) ?_ (by walk_at "ev") (by walk_at "ev") (by walk_at "ev")
  refine arg2 ?_
  refine e_cell S (c := L + 1) (o := oc) (by walk_at "ev") (by simp) hoc ?_ (by walk_at "ev") (by walk_at "ev")
  refine e_int fun t₃ => ⟨B.at S, ?_⟩
  refine c_coin (M₁ := [(ea, lO [] 0)]) B S R.less hi hz (by decide) fun h₄ t₄ xs₁ ns₁ n₁ m u₁ m0 m8 hi₁ hz₁ S₄ => ?_
  obtain ⟨m, rfl⟩ : ∃ k : Nat, m = (k : Int) := ⟨m.toNat, by (first | lia | omega)⟩
  refine r_range S₄ fun h₅ t₅ ra t₆ u₆ v₆ Z₁ S₅ hs₁ hr₁ => ?_
  refine for_range (m := m) S₅ R.hh hr₁ (by (first | lia | omega))
    (EntJ L ea ca c u oc M₀) ?_ ?_ ?_
  · exact ⟨[], 0, xs₁, ns₁, n₁, [], rfl, rfl, hi₁, hz₁, .nil, rfl, by simp⟩
  · intro i u₇ l' M' Z' h' t' I o E' him hs hJ₀ S₇ K hK
    obtain ⟨es, n₁, xs, ns, n₂, ent, rfl, rfl, hi, hz, hes, hel, hok⟩ := hJ₀
    have hesl : es.length = ent.length := by have := hes.length; simpa using this
    refine as_name S₇ (fun h₈ t₈ S₈ => ?_) (by walk_at "ev") (by walk_at "ev") (by walk_at "ev")
    refine wpAny_execs_cons ?_
    walk_at "asn"
    refine x_ty B S₈ (g_tuple w) b_tuple ?_ (by walk_at "ev") (by walk_at "ev") (by walk_at "ev") (by walk_at "ev")
    refine arg1 ?_
    refine e_comp (cl := [("coins", L + 1)]) (by walk_at "ev") (by walk_at "ev") (by walk_at "ev") (by intro _; rfl) ?_
    refine x_ty B S₈ (g_range w) b_range ?_ (by walk_at "ev") (by walk_at "ev") (by walk_at "ev") (by walk_at "ev")
    refine arg1 ?_
    walk_at "nm"
    refine r_range S₈ fun h₉ t₉ rb t₁₀ u₁₀ v₁₀ Z₂ S₉ hs₂ hr₂ => ?_
    refine comp_range (m := c) S₉ R.hh hr₂ (by (first | lia | omega)) (by walk_at "ev") (by walk_at "ev") (by walk_at "ev")
      (SigJ L ea ca I o es n₁ oc M₀) ⟨xs, ns, n₂, [], rfl, hi, hz, .nil, rfl, by simp⟩ ?_ ?_
    · intro g' C D I' j u' acc kD M' Z'' h' t' o' E' hg' hj hs' hJ₀ hal S₁₀ K hK
      obtain ⟨xs, ns, n₂, sg, rfl, hi, hz, hacc, hsl, hsm⟩ := hJ₀
      have Bg := B.keeps hg'
      show wpAny _ _ _ _ _ _
      refine Subscript_ ?_
      refine List_ (args_cons (e_str fun t₁ => args_cons (e_str fun t₂ => arg3 (e_str fun t₃ => e_str fun t₄ => e_str fun t₅ => ?_))))
      refine r_list S₁₀ (by simp) (fun h₁₁ mn S₁₁ => ?_)
      refine x_def Bg S₁₁ (g_coin w) (k_154 w) ?_ (by walk_at "ev") (by walk_at "ev") (by walk_at "ev")
      refine arg2 ?_
      refine e_cell S₁₁ (c := L + 1) (o := oc) (by walk_at "ev") (by simp) hoc ?_ (by walk_at "ev") (by walk_at "ev")
      refine e_int fun t₁₂ => ⟨Bg.at S₁₁, ?_⟩
      refine c_coin (M₁ := [(mn, _), (D, lO acc kD), (I', o'), (I, o), (ea, lO es n₁)]) Bg S₁₁ R.less hi hz (by decide) fun h₁₃ t₁₃ xs₁₃ ns₁₃ n₁₃ r ur r0 r5 hi₁₃ hz₁₃ S₁₃ => ?_
      have hmd : DatAll Z'' ([.str "A" t', .str "B" t₁, .str "ANY" t₂, .str "C" t₃, .str "Z" t₄] : List Value) (menu.map .str) := .cons (.str _ _) (.cons (.str _ _) (.cons (.str _ _) (.cons (.str _ _) (.cons (.str _ _) .nil))))
      have hr5 : r.toNat < menu.length := by show r.toNat < 5; (first | lia | omega)
      obtain ⟨hv, hdv⟩ := d_get hmd (k := r.toNat) (by simpa using hr5)
      have hdv' : DatIn Z'' ([.str "A" t', .str "B" t₁, .str "ANY" t₂, .str "C" t₃, .str "Z" t₄] : List Value)[r.toNat] (.str menu[r.toNat]) := by
        have e : (menu.map Dat.str)[r.toNat]'(by simpa using hr5) = .str menu[r.toNat] := by rw [List.getElem_map]
        rw [e] at hdv; exact hdv
      refine x_Lm r.toNat (by (first | lia | omega)) S₁₃ (xs := [.str "A" t', .str "B" t₁, .str "ANY" t₂, .str "C" t₃, .str "Z" t₄]) (n := 0) (List.mem_cons_self ..) (List.getElem?_eq_getElem hv) (by simp) ?_
      refine hK _ _ <| CompE.mk (Sub.refl _) S₁₃.tail ⟨xs₁₃, ns₁₃, n₁₃, sg ++ [menu[r.toNat]], rfl, hi₁₃, hz₁₃, ?_, by simp [hsl], fun x hx => ?_⟩
      · rw [List.map_append]; exact d_snoc hacc hdv'
      · rcases List.mem_append.mp hx with hx | hx
        · exact hsm x hx
        · rw [List.mem_singleton.mp hx]; exact List.getElem_mem hr5
    · rintro C oC D acc kD M' Z'' h'' t'' hs' ⟨xs, ns, n₂, sg, rfl, hi, hz, hacc, hsl, hsm⟩ hal
      intro h₁₄ S₁₄
      refine r_tupM S₁₄ (List.mem_cons_self ..) hacc (by (first | lia | omega)) fun h₁₅ b Z₃ S₁₅ hs₃ hb => ?_
      have S₁₆ := S₁₅.tail
      refine n_store S₁₆ (fun h₁₇ t₁₇ S₁₇ => ?_) (by walk_at "ev") (by walk_at "ev") (by walk_at "ev")
      refine wpAny_execs_cons (wpAny_Expr (MethodCall_ ?_ (by rfl)))
      walk_at "nm"
      refine m_list (S₁₇.getM (o := lO es n₁) (by simp)) rfl rfl F.slot_list_append F.type_list_append ?_
      refine callWith_method1 (arg1 (Tuple_ (arg2 ?_)))
      walk_at "nm"
      refine wpAny_BinOp (e_str fun t₁₈ => ?_)
      refine x_ty B S₁₇ (g_str w) b_str ?_ (by walk_at "ev") (by walk_at "ev") (by walk_at "ev") (by walk_at "ev")
      refine arg1 ?_
      walk_at "nm"
      have hi8 : i < 8 := by (first | lia | omega)
      refine P.str_of_int (by
        have : ∀ i : Nat, i < 8 → ((i : Int).natAbs.log2 < 1920) := by decide +kernel
        exact this i hi8) ?_
      refine PyProof.Rows.add_str (fun t₁₉ tk₁₉ => ?_) (by
        have h1 := fn_len i hi8
        have h2 : ("fn" : Str).length = 2 := by decide +kernel
        rw [h2, sizeLine_eq]
        exact Nat.le_trans (Nat.add_le_add_left h1 2) (by decide))
      refine r_tuple (s := s) S₁₇ (ds := [dSig sg, .str (fnName i)]) (.cons hb (.cons (.str _ _) .nil)) (by simp) fun h₂₀ p Z₄ S₂₀ hs₄ hp => ?_
      refine r_append (M₁ := [(I, o)]) S₂₀ (by (first | lia | omega)) fun h₂₁ S₂₁ => ?_
      refine wpAny_execs_nil (hK _ _ <| TurnE.next (hs₂.trans (hs'.trans (hs₃.trans hs₄))) (S₂₁.lc (l' := [("entered", .ref ea), ("count", .int (c : Int) u)]) (by walk_at "lc")) ⟨_, _, xs, ns, n₂, ent ++ [(sg, fnName i)], rfl, rfl, hi, hz, ?_, by simp [hel], fun m hm => ?_⟩)
      · rw [List.map_append]; exact d_snoc (hes.mono (hs₂.trans (hs'.trans (hs₃.trans hs₄)))) hp
      · rcases List.mem_append.mp hm with hm | hm
        · exact hok m hm
        · rw [List.mem_singleton.mp hm]; exact ⟨hsl, hsm, fn_ok i hi8⟩
  · rintro l' M' Z' h' t' hs ⟨es, n₁, xs, ns, n₂, ent, rfl, rfl, hi, hz, hes, hel, hok⟩ S₇
    exact k _ _ Z' es n₁ xs n₂ ent (hs₁.trans hs) hes (by (first | lia | omega)) hok S₇
end
end Mine
end
section
open PySem PySem.W PySem.Calls PyProof.Rows
set_option maxHeartbeats 4000000
namespace Mine
section
variable {w : World} {A : Around} {E : Value → Shared → Prop} {s : Shared} {h₀ h : Heap} {t : Nat} {L : Addr} {l : Loc} {M M₁ M₂ Z : Led} {env : Env}
  {tp : Program} {loose : List Str} {mean : ExcName → Option Value} {mg mb : Str → Option Value} {prog : Program} {a : Addr} {n : Nat} {xs vs : List Value} {ds es : List Dat} {d e : Dat} {v y r : Value} {Q : Value → Shared → Prop}
variable {fa : Addr} {cd : Value} {Q : Flow → Shared → Prop}

theorem seg5 {M₀ : Led} {ea : Addr} {c : Nat} {u : Tok} (B : Base w tp loose mean mg mb h₀) (S : St h₀ L h [("entered", .ref ea), ("count", .int (c : Int) u)] M₀ Z)
    (k : ∀ h' t' nd od, (nd == sysModules) = false → NewIn w Z od [] → St h₀ L h' [("newest", .ref nd), ("entered", .ref ea), ("count", .int (c : Int) u)] ((nd, od) :: M₀) Z → Q .next (up s h' t')) :
    wpAny (model PG w) A (exec (stAt w 5) (lawEnv w L fa cd)) Q E (up s h t) := by
  walk_at "asn"
  obtain ⟨m', F', hm'⟩ := S.fr
  refine newDict_K (w := w) (s := up s h t) F' S.N B.T.nolimit fun d h₃ o F₃ N₃ ltd lo hd _ _ _ => ?_
  have S₃ := S.next F₃ hm' N₃ ltd
  exact n_store S₃ (fun h₄ t₄ S₄ => k _ _ d o lo (NewIn.empty hd) S₄) (by walk_at "ev") (by walk_at "ev") (by walk_at "ev")

theorem seg6 {M₀ : Led} {ea nd : Addr} {c : Nat} {u : Tok} (B : Base w tp loose mean mg mb h₀) (S : St h₀ L h [("newest", .ref nd), ("entered", .ref ea), ("count", .int (c : Int) u)] M₀ Z) (R : Rm A 20)
    (k : ∀ h' t' Z' x gd og, Sub Z Z' → og.IsDictOf (PySem.strKind PG w) [] → Inst Z' x gd → St h₀ L h' [("table", .ref x), ("newest", .ref nd), ("entered", .ref ea), ("count", .int (c : Int) u)] ((gd, og) :: M₀) Z' → Q .next (up s h' t')) :
    wpAny (model PG w) A (exec (stAt w 6) (lawEnv w L fa cd)) Q E (up s h t) := by
  walk_at "asn"
  refine Call_ (e_glob B S (g_MT w) (callWith_K0 (B.at S) (k_124 w) ?_) (by walk_at "ev") (by walk_at "ev") (by walk_at "ev"))
  refine c_new B S R.less fun h₂ t₂ Z₂ x gd og hs₂ S₂ hd I => ?_
  exact n_store S₂ (fun h₄ t₄ S₄ => k _ _ Z₂ x gd og hs₂ hd I S₄) (by walk_at "ev") (by walk_at "ev") (by walk_at "ev")

noncomputable abbrev xyz (c : Nat) : List Dat := (([("x" : Str), "y", "z"] : List Str).map Dat.str).take c
theorem xyz_len {c : Nat} (h : c ≤ 3) : (xyz c).length = c := by simp [xyz]; (first | lia | omega)

theorem seg7 {M₀ : Led} {ea nd x gd : Addr} {og : Obj} {c : Nat} {u : Tok} (B : Base w tp loose mean mg mb h₀) (S : St h₀ L h [("table", .ref x), ("newest", .ref nd), ("entered", .ref ea), ("count", .int (c : Int) u)] ((gd, og) :: M₀) Z) (R : Rm A 20) (hd : og.IsDictOf (PySem.strKind PG w) []) (I : Inst Z x gd)
    (k : ∀ h' t' Z' ml n, Sub Z Z' → TabIn w Z' x ml (xyz c) → St h₀ L h' [("table", .ref x), ("newest", .ref nd), ("entered", .ref ea), ("count", .int (c : Int) u)] ((ml, lO [] n) :: M₀) Z' → Q .next (up s h' t')) :
    wpAny (model PG w) A (exec (stAt w 7) (lawEnv w L fa cd)) Q E (up s h t) := by
  refine wpAny_Expr (MethodCall_ ?_ (by rfl))
  walk_at "nm"
  refine m_inst B S I (f := 74) (by kernel_rfl!) (by kernel_rfl!) (by kernel_rfl!) (by decide +kernel) ?_
  refine cw_m (fn_setgen w) B (arg2 (e_str fun t₁ => ?_))
  refine Subscript_ (List_ (arg3 (e_str fun t₂ => e_str fun t₃ => e_str fun t₄ => ?_)))
  refine r_list S (by simp) (fun h₅ lx S₅ => ?_)
  refine wpAny_Slice ?_
  show wpAny _ _ (pure Value.none) _ _ _
  refine wpAny_pure ?_
  show wpAny _ _ (eval _ _) _ _ _
  walk_at "nm"
  show wpAny _ _ (pure Value.none) _ _ _
  refine wpAny_pure ?_
  refine x_slice (lo := none) (hi := some (c : Int)) (ws := List.take c _) S₅ (List.mem_append.mpr (.inl (.head _))) .none (.int _ _) (pick_upto _ c) (by simp) fun h₆ D S₆ => ?_
  obtain ⟨Z₃, S₇, hs₃, hfd⟩ := fz_list (ds := xyz c) S₆ (d_take (.cons (.str _ _) (.cons (.str _ _) (.cons (.str _ _) .nil))) c)
  refine ⟨S₇.stays', ?_⟩
  refine c_setgen B S₇.tail R.less hd (I.mono hs₃) hfd (by simp; (first | lia | omega)) fun h₈ t₈ Z₄ ml n hs₄ S₈ T => ?_
  exact k _ _ Z₄ ml n (hs₃.trans hs₄) T S₈

theorem seg8 {M₀ : Led} {ea nd x ml : Addr} {od : Obj} {c n : Nat} {u : Tok} {ent : List (Sig × Str)} (B : Base w tp loose mean mg mb h₀) (S : St h₀ L h [("table", .ref x), ("newest", .ref nd), ("entered", .ref ea), ("count", .int (c : Int) u)] ((ml, lO [] n) :: (nd, od) :: M₀) Z) (R : Rm A 20)
    (T : TabIn w Z x ml (xyz c)) (N : NewIn w Z od []) (hent : DatIn Z (.ref ea) (.list (ent.map dMeth))) (hlen : ent.length < 8) (hok : ∀ m ∈ ent, MOk c m) (hc : c ≤ 3)
    (k : ∀ h' t' Z' vs n' od', Sub Z Z' → DatAll Z' vs ((msOf ent).map dMeth) → NewIn w Z' od' (msOf ent) → St h₀ L h' [("table", .ref x), ("newest", .ref nd), ("count", .int (c : Int) u)] ((ml, lO vs n') :: (nd, od') :: M₀) Z' → Q .next (up s h' t')) :
    wpAny (model PG w) A (exec (stAt w 8) (lawEnv w L fa cd)) Q E (up s h t) := by
  refine s_for ?_ (by intro _; rfl)
  walk_at "nm"
  refine for_list (S.lc (l' := [("table", .ref x), ("newest", .ref nd), ("count", .int (c : Int) u)]) (by walk_at "lc")) R.hh hent
    (fun i l' M' Z' => ∃ vs n od, l' = ([("table", .ref x), ("newest", .ref nd), ("count", .int (c : Int) u)] : Loc) ∧ M' = (ml, lO vs n) :: (nd, od) :: M₀ ∧ DatAll Z' vs ((msOf (ent.take i)).map dMeth) ∧ NewIn w Z' od (msOf (ent.take i))) ⟨[], n, od, rfl, rfl, .nil, N⟩ ?_ ?_
  · intro i y l' M' Z' h' t' I o E' hi hy hs hJ₀ S₄ K hK
    obtain ⟨vs, n, od, rfl, rfl, hvs, N⟩ := hJ₀
    have hi' : i < ent.length := by simpa using hi
    have hy' : DatIn Z' y (.tuple [dSig ent[i].1, .str ent[i].2]) := by simpa using hy
    have hms : ∀ m ∈ msOf (ent.take i), MOk c m := msOf_all fun m hm => hok m (List.mem_of_mem_take hm)
    have hml : (msOf (ent.take i)).length < 8 := Nat.lt_of_le_of_lt (msOf_len _) (by rw [List.length_take]; (first | lia | omega))
    have hmi := hok _ (List.getElem_mem hi')
    refine as_pair R.hh S₄ hy' (fun h₅ t₅ v₁ v₂ hv₁ hv₂ S₅ => ?_) (by walk_at "ev") (by walk_at "ev") (by walk_at "ev") (by walk_at "ev")
    refine wpAny_execs_cons (wpAny_Expr (MethodCall_ ?_ (by rfl)))
    walk_at "nm"
    refine m_inst B S₅ (T.mono hs).inst (f := 95) (by kernel_rfl!) (by kernel_rfl!) (by kernel_rfl!) (by decide +kernel) ?_
    refine cw_m (fn_setm w) B (arg3 (e_str fun t₆ => ?_))
    walk_at "nm"
    walk_at "nm"
    refine ⟨S₅.stays', ?_⟩
    refine c_setm (M₁ := [(I, o)]) B S₅ R.less (T.mono hs) hv₁ hv₂ hvs (hmi.1.trans (xyz_len hc).symm) (by rw [xyz_len hc]; (first | lia | omega)) (by (first | lia | omega)) hmi.sig (fun m hm => (hms m hm).sig) fun h₇ t₇ Z₇ vs' n' hs₇ S₇ hvs' => ?_
    refine wpAny_execs_cons (wpAny_Assign_Subscript ?_ (by walk_at "ev"))
    refine e_loc S₇ (by walk_at "lk") ?_ (by walk_at "ev") (by walk_at "ev") (by walk_at "ev")
    refine e_loc S₇ (by walk_at "lk") ?_ (by walk_at "ev") (by walk_at "ev") (by walk_at "ev")
    refine e_loc S₇ (by walk_at "lk") ?_ (by walk_at "ev") (by walk_at "ev") (by walk_at "ev")
    refine r_newSet (M₁ := [(I, o), (ml, lO vs' n')]) S₇ (N.mono hs₇) (by have := R.hu; (first | lia | omega)) (hv₁.mono hs₇) (hv₂.mono hs₇) (by (first | lia | omega)) fun h₈ t₈ od' S₈ N₈ => ?_
    have em : msOf (ent.take (i + 1)) = setM (msOf (ent.take i)) ent[i].1 ent[i].2 := by rw [List.take_succ_eq_append_getElem hi', msOf_snoc]
    refine wpAny_execs_nil (hK _ _ <| TurnE.next hs₇ (S₈.lc (l' := [("table", .ref x), ("newest", .ref nd), ("count", .int (c : Int) u)]) (by walk_at "lc")) ⟨vs', n', od', rfl, rfl, ?_, ?_⟩)
    · rw [em]; exact hvs'
    · rw [em]; exact N₈
  · rintro l' M' Z' h' t' hs ⟨vs, n, od, rfl, rfl, hvs, N⟩ S₄
    rw [List.take_of_length_le (by simp)] at hvs N
    exact k _ _ Z' vs n od hs hvs N S₄
end
end Mine
end
section
open PySem PySem.W PySem.Calls PyProof.Rows
set_option maxHeartbeats 4000000
namespace Mine
section
variable {w : World} {A : Around} {E : Value → Shared → Prop} {s : Shared} {h₀ h : Heap} {t : Nat} {L : Addr} {l : Loc} {M M₁ M₂ Z : Led} {env : Env}
  {tp : Program} {loose : List Str} {mean : ExcName → Option Value} {mg mb : Str → Option Value} {prog : Program} {a : Addr} {n : Nat} {xs vs : List Value} {ds es : List Dat} {d e : Dat} {v y r : Value} {Q : Value → Shared → Prop}

theorem comp_dict {elt iter : Expr} {x : Str} {px : Pos} {ifs : List Expr} {scope : Scope} {pos : Pos} {cl : List (Str × Addr)} {use : Option (Value → Sem Unit)} {dd : Addr} {od : Obj} {ms : List (Sig × Str)} (S : St h₀ L h l M Z) (hh : A.handled = none) (hm : (dd, od) ∈ Z) (lo : (dd == sysModules) = false) (N : NewIn w Z od ms) (hN : ms.length ≤ 1000)
    (hcell : (scope.names.all fun y => y.2 != .cell) = true) (hkind : scope.kind = .function) (hx : scope.names.lookup x = some .local)
    (J : Nat → List Value → Led → Led → Prop) (j0 : J 0 [] M Z)
    (turn : ∀ g C D I i u acc kD M' Z' h' t' o E', h₀.StaysIn g → (hi : i < ms.length) → DatIn Z' u (dSig ms[i].1) → Sub Z Z' → J i acc M' Z' → acc.length ≤ i → St g C h' [(x, u)] ((D, lO acc kD) :: (I, o) :: M') Z' → ∀ K : List Value → Shared → Prop, (∀ acc' s', CompE s g C D (I, o) Z' (J (i + 1)) kD acc acc' s' → K acc' s') →
      CElt PG w A (compEnvC scope cl C env) elt ifs K acc E' (up s h' t'))
    (done : ∀ C oC D acc kD M' Z' h' t', Sub Z Z' → J ms.length acc M' Z' → acc.length ≤ ms.length → 
      CDone PG w A E s h₀ L l use Q (C, oC) (D, lO acc kD) M' Z' h' t') :
    wpAny (model PG w) A (pyIter (.ref dd)) (CompP PG w A env (.ListComp elt [⟨.Name x px, iter, ifs, 0⟩] scope pos) scope cl use Q E) E (up s h t) := by
  obtain ⟨es, ep, xs, hc, hdat, he, nd, hk, h1, h2⟩ := N
  have hlen : xs.length = ms.length := by have := congrArg List.length hk; simpa using this
  have hes : es.size = ms.length := by rw [← hlen]; have := congrArg List.length he; simpa using this
  have hlt := Heap.lt_size (S.getZ hm)
  refine ent_iter lo (S.getZ hm) hc.1 hdat ?_
  have W := ent_walks (w := w) (prog := PG) (A := A) (I := h.objs.size) (d := dd) hh (Nat.ne_of_lt hlt) hdat
  refine comp_walk (s := s) (t := t) W (fun b hb => ?_) (by simp) (by (first | lia | omega)) ⟨⟨_, Heap.get?_push_size _ rfl, rfl, rfl⟩, Heap.get?_push_of_some _ (S.getZ hm)⟩ (S.push _) (fun i h st => let ⟨⟨o, ho, _⟩, _⟩ := st; ⟨o, ho⟩) hcell hkind (fun _ => rfl) J j0 ?_
    (fun C oC D acc kD M' Z' h' t' a b e => done C oC D acc kD M' Z' h' t' a (hes ▸ b) (hes ▸ e))
  · rcases List.mem_cons.mp hb with rfl | hb
    · exact .inl rfl
    · exact .inr (.inl ⟨_, (List.mem_singleton.mp hb) ▸ hm⟩)
  · intro g C D i u acc kD l' M' Z' h' t' o E' st hie hP hs hj ha S'
    have hi : i < ms.length := by (first | lia | omega)
    obtain ⟨hi2, e⟩ := hP
    have hx2 : i < xs.length := by (first | lia | omega)
    have ek : es[i] = entryOfKey (TK w) xs[i] := by
      have := entry_at he i
      rw [Array.getElem?_eq_getElem hi2, List.getElem?_eq_getElem hx2] at this
      exact Option.some.inj this
    have hki : xs[i].1 = ms[i].1 := by
      have : (xs.map (·.1))[i]? = (ms.map (·.1))[i]? := by rw [hk]
      simpa [hx2, hi] using this
    have hu : DatIn Z u (dSig ms[i].1) := by
      rw [e, ek, ← hki]
      exact h1 xs[i] (List.getElem_mem hx2)
    refine as_name S' (fun h₁ t₁ S₁ => ?_) rfl (by simp [compEnvC, relabel, hkind]) (lookup_relabel_local hx)
    exact (turn g C D _ i _ acc kD M' Z' h₁ t₁ o E' st hi (hu.mono hs) hs hj ha (S₁.loc fun p hp => by rw [List.mem_singleton.mp hp]; exact lk_here) _ fun _ _ q => q).go

/-- what stands behind the methods' entering -/
structure LawH (w : World) (Z : Led) (L x ml nd : Addr) (vs : List Value) (od ol : Obj) (lv : Value) (lns : List Line) (ms : List (Sig × Str)) (c : Nat) : Prop where
  T : TabIn w Z x ml (xyz c)
  hms : DatAll Z vs (ms.map dMeth)
  hN : NewIn w Z od ms
  hnd : (nd, od) ∈ Z
  lo : (nd == sysModules) = false
  hol : ol.data = .cell (some lv)
  hlv : DatIn Z lv (dLines lns)
  lnsl : lns.length = c
  hok : ∀ ln ∈ lns, LineOk ln
  msok : ∀ m ∈ ms, MOk c m
  msnd : (ms.map (·.1)).Nodup
  msl : ms.length < 8
  hc1 : 1 ≤ c
  hc3 : c ≤ 3
theorem LawH.mono {Z' : Led} {x ml nd : Addr} {od ol : Obj} {lv : Value} {lns : List Line} {ms : List (Sig × Str)} {c : Nat} (H : LawH w Z L x ml nd vs od ol lv lns ms c) (hs : Sub Z Z') : LawH w Z' L x ml nd vs od ol lv lns ms c :=
  ⟨H.T.mono hs, H.hms.mono hs, H.hN.mono hs, hs _ H.hnd, H.lo, H.hol, H.hlv.mono hs, H.lnsl, H.hok, H.msok, H.msnd, H.msl, H.hc1, H.hc3⟩
theorem LawH.len {x ml nd : Addr} {od ol : Obj} {lv : Value} {lns : List Line} {ms : List (Sig × Str)} {c : Nat} (H : LawH w Z L x ml nd vs od ol lv lns ms c) : ∀ m ∈ ms, m.1.length = lns.length := fun m hm => (H.msok m hm).1.trans H.lnsl.symm
theorem LawH.lz {x ml nd : Addr} {od ol : Obj} {lv : Value} {lns : List Line} {ms : List (Sig × Str)} {c : Nat} (H : LawH w Z L x ml nd vs od ol lv lns ms c) : ∀ ln ∈ lns, ln.length ≤ 1000 := fun ln hl => Nat.le_trans (H.hok ln hl).len (by decide)
theorem LawH.ll {x ml nd : Addr} {od ol : Obj} {lv : Value} {lns : List Line} {ms : List (Sig × Str)} {c : Nat} (H : LawH w Z L x ml nd vs od ol lv lns ms c) : lns.length ≤ 1000 := by rw [H.lnsl]; have := H.hc3; (first | lia | omega)

/-- the candidates' facts -/
structure TopE (lns : List Line) (ms : List (Sig × Str)) (es : List Ent) : Prop where
  perm : es.Perm (ents lns ms)
  sorted : es.Pairwise fun a b => ltKey a.1 b.1 = true
theorem TopE.mem {lns : List Line} {ms : List (Sig × Str)} {es : List Ent} (T : TopE lns ms es) {e : Ent} (h : e ∈ es) : ∃ m ∈ ms, fits lns m.1 = true ∧ e = entOf lns m := mem_ents (T.perm.mem_iff.mp h)
theorem TopE.len {lns : List Line} {ms : List (Sig × Str)} {es : List Ent} (T : TopE lns ms es) : es.length ≤ ms.length := by
  rw [T.perm.length_eq]; unfold ents; rw [List.length_map]; exact List.length_filter_le _ _
theorem TopE.sigs {lns : List Line} {ms : List (Sig × Str)} {es : List Ent} (T : TopE lns ms es) : (es.map (·.2.1)).Perm ((ms.map (·.1)).filter fun sg => fits lns sg) := by
  rw [← ents_sigs]; exact T.perm.map _
theorem TopE.nodup {lns : List Line} {ms : List (Sig × Str)} {es : List Ent} (T : TopE lns ms es) (nd : (ms.map (·.1)).Nodup) : (es.map (·.2.1)).Nodup := T.sigs.nodup_iff.mpr (nd.filter _)
theorem TopE.same {lns : List Line} {ms ms' : List (Sig × Str)} {es es' : List Ent} (T : TopE lns ms es) (T' : TopE lns ms' es') (hp : ms'.Perm ms) : es' = es :=
  sorted_same (lt := fun a b : Ent => ltKey a.1 b.1) (fun a b h => ltKey_asym h) (T'.perm.trans ((ents_perm hp).trans T.perm.symm)) T'.sorted T.sorted

variable {fa : Addr} {cd : Value} {Q : Flow → Shared → Prop}
variable {x ml nd : Addr} {od ol o1 o2 ob : Obj} {lv : Value} {lns : List Line} {ms : List (Sig × Str)} {c : Nat} {u : Tok}

noncomputable abbrev MM (L ml : Addr) (vs : List Value) (n : Nat) (ol o1 o2 ob : Obj) : Led := [(ml, lO vs n), (L + 1 + 1, ol), (L + 1 + 1 + 1, o1), (L + 1 + 1 + 1 + 1, o2), (104, ob)]

theorem seg9 (B : Base w tp loose mean mg mb h₀) (S : St h₀ L h [("table", .ref x), ("newest", .ref nd), ("count", .int (c : Int) u)] (MM L ml vs n ol o1 o2 ob) Z) (R : Rm A 20) (H : LawH w Z L x ml nd vs od ol lv lns ms c) (hT : LamTab lamPos lamQ Z ob)
    (k : ∀ h' t' Z' ob' D es, Sub Z Z' → LamTab lamPos lamQ Z' ob' → TopE lns ms es → DatIn Z' (.ref D) (.list (es.map dTold)) → St h₀ L h' [("told", .ref D), ("table", .ref x), ("newest", .ref nd), ("count", .int (c : Int) u)] (MM L ml vs n ol o1 o2 ob') Z' → Q .next (up s h' t')) :
    wpAny (model PG w) A (exec (stAt w 9) (lawEnv w L fa cd)) Q E (up s h t) := by
  walk_at "asn"
  refine MethodCall_ ?_ (by rfl)
  walk_at "nm"
  refine m_inst B S H.T.inst (f := 107) (by kernel_rfl!) (by kernel_rfl!) (by kernel_rfl!) (by decide +kernel) ?_
  refine cw_m (fn_cand w) B (arg2 (e_str fun t₁ => ?_))
  refine e_cell S (c := L + 1 + 1) (o := ol) (by walk_at "ev") (by simp) H.hol ?_ (by walk_at "ev") (by walk_at "ev")
  refine ⟨S.stays', ?_⟩
  refine c_cand (n := n) (M₁ := [(ml, lO vs n), (L + 1 + 1, ol), (L + 1 + 1 + 1, o1), (L + 1 + 1 + 1 + 1, o2)]) (M₂ := []) B S R.less H.T (by simp) H.hms H.hlv H.len H.msnd (by have := H.msl; (first | lia | omega)) H.ll H.lz hT fun h₂ t₂ Z₂ ob' D es hs₂ S₂ hT' hp hso hD => ?_
  exact n_store S₂ (fun h₄ t₄ S₄ => k _ _ Z₂ ob' D es hs₂ hT' ⟨hp, hso⟩ hD S₄) (by walk_at "ev") (by walk_at "ev") (by walk_at "ev")

noncomputable abbrev fitL (lns : List Line) (ms : List (Sig × Str)) : List Sig := (ms.map (·.1)).filter fun sg => fits lns sg

theorem seg10 {D : Addr} (B : Base w tp loose mean mg mb h₀) (S : St h₀ L h [("told", .ref D), ("table", .ref x), ("newest", .ref nd), ("count", .int (c : Int) u)] (MM L ml vs n ol o1 o2 ob) Z) (R : Rm A 20) (H : LawH w Z L x ml nd vs od ol lv lns ms c)
    (k : ∀ h' t' Z' fl xs nn, Sub Z Z' → (fl, lO xs nn) ∈ Z' → DatAll Z' xs ((fitL lns ms).map dSig) → St h₀ L h' [("fitting", .ref fl), ("told", .ref D), ("table", .ref x), ("newest", .ref nd), ("count", .int (c : Int) u)] (MM L ml vs n ol o1 o2 ob) Z' → Q .next (up s h' t')) :
    wpAny (model PG w) A (exec (stAt w 10) (lawEnv w L fa cd)) Q E (up s h t) := by
  refine s_comp (cl := [("lines", L + 1 + 1)]) (by walk_at "ev") (by walk_at "ev") (by walk_at "ev") (by walk_at "ev") (by intro _; rfl) ?_
  walk_at "nm"
  refine comp_dict S R.hh H.hnd H.lo H.hN (by have := H.msl; (first | lia | omega)) (by walk_at "ev") (by walk_at "ev") (by walk_at "ev")
    (fun j acc M' Z' => M' = MM L ml vs n ol o1 o2 ob ∧ DatAll Z' acc ((fitL lns (ms.take j)).map dSig)) ⟨rfl, by simpa [fitL] using DatAll.nil⟩ ?_ ?_
  · intro g' C D' I j u' acc kD M' Z' h' t' o' E' hg' hj hu hs' hJ₀ hal S₆ K hK
    obtain ⟨rfl, hacc⟩ := hJ₀
    have Bg := B.keeps hg'
    have hen : fitL lns (ms.take (j + 1)) = fitL lns (ms.take j) ++ if fits lns ms[j].1 = true then [ms[j].1] else [] := by
      unfold fitL
      rw [List.take_succ_eq_append_getElem hj, List.map_append, List.filter_append]
      congr 1
      by_cases hf : fits lns ms[j].1 = true
      · rw [if_pos hf]; simp [hf]
      · rw [if_neg hf]; simp [hf]
    show wpAny _ _ _ _ _ _
    refine wpAny_isTrue_Compare1 ?_ (by walk_at "ev")
    refine x_def Bg S₆ (g_spots w) (k_166 w) ?_ (by walk_at "ev") (by walk_at "ev") (by walk_at "ev")
    refine arg2 ?_
    refine e_loc S₆ (by walk_at "lk") ?_ (by walk_at "ev") (by walk_at "ev") (by walk_at "ev")
    refine e_cell S₆ (c := L + 1 + 1) (o := ol) (by walk_at "ev") (by simp) H.hol ?_ (by walk_at "ev") (by walk_at "ev")
    refine ⟨Bg.at S₆, ?_⟩
    refine c_spots Bg S₆ R.less hu (H.hlv.mono hs') (H.len _ (List.getElem_mem hj)) H.ll H.lz fun h₇ t₇ Z₇ y hs₇ S₇ hy => ?_
    refine e_none (x_isnot (b_truthy ?_))
    by_cases hf : fits lns ms[j].1 = true
    · have hy' : DatIn Z₇ y (dInts (plc lns ms[j].1)) := by
        unfold dSpots at hy; rw [if_pos hf] at hy; exact hy
      have e1 : (!(y == Value.none)) = true := by obtain ⟨a, _, _, rfl, _⟩ := d_list hy'; rfl
      rw [e1, if_pos rfl]
      refine e_loc S₇ (by walk_at "lk") ?_ (by walk_at "ev") (by walk_at "ev") (by walk_at "ev")
      refine hK _ _ <| CompE.mk hs₇ S₇ ⟨rfl, ?_⟩
      rw [hen, if_pos hf, List.map_append]
      exact d_snoc (hacc.mono hs₇) (hu.mono hs₇)
    · have hy' : y = .none := by
        unfold dSpots at hy; rw [if_neg hf] at hy; exact d_none hy
      subst hy'
      have e1 : (!(Value.none == Value.none)) = false := rfl
      rw [e1, if_neg (by decide)]
      refine hK _ _ <| CompE.mk hs₇ S₇ ⟨rfl, ?_⟩
      rw [hen, if_neg hf, List.append_nil]
      exact hacc.mono hs₇
  · rintro C oC D' acc kD M' Z' h' t' hs' ⟨rfl, hacc⟩ hal
    intro S₇
    refine as_name S₇ (fun h₈ t₈ S₈ => ?_) (by walk_at "ev") (by walk_at "ev") (by walk_at "ev")
    refine ⟨h₈, t₈, _, _, _, rfl, S₈, fun h₉ S₉ => ?_⟩
    rw [List.take_of_length_le (Nat.le_refl _)] at hacc
    exact k _ _ _ D' acc kD (hs'.trans (Sub.cons _ _)) (.head _) (hacc.mono (Sub.cons _ _)) S₉.freeze
end
end Mine
end
section
open PySem PySem.W PySem.Calls PyProof.Rows
set_option maxHeartbeats 4000000
namespace Mine
section
variable {w : World} {A : Around} {E : Value → Shared → Prop} {s : Shared} {h₀ h : Heap} {t : Nat} {L : Addr} {l : Loc} {M M₁ M₂ Z : Led} {env : Env}
  {tp : Program} {loose : List Str} {mean : ExcName → Option Value} {mg mb : Str → Option Value} {prog : Program} {a : Addr} {n : Nat} {xs vs : List Value} {ds es : List Dat} {d e : Dat} {v y r : Value} {Q : Value → Shared → Prop}
variable {fa : Addr} {cd : Value} {Q : Flow → Shared → Prop}
variable {x ml nd : Addr} {od ol o1 o2 ob : Obj} {lv : Value} {lns : List Line} {ms : List (Sig × Str)} {c : Nat} {u : Tok} {es : List Ent}

theorem fitL_facts (H : LawH w Z L x ml nd vs od ol lv lns ms c) : (fitL lns ms).Nodup ∧ (∀ sg ∈ fitL lns ms, sg.length = c ∧ SigOk sg) ∧ (fitL lns ms).length < 8 := by
  refine ⟨H.msnd.filter _, fun sg hsg => ?_, ?_⟩
  · obtain ⟨m, hm, rfl⟩ := List.mem_map.mp (List.mem_filter.mp hsg).1
    exact ⟨(H.msok m hm).1, (H.msok m hm).sig⟩
  · have := List.length_filter_le (fun sg => fits lns sg) (ms.map (·.1))
    have := H.msl
    unfold fitL; simp at *; (first | lia | omega)
theorem okSigs {sgs : List Sig} (h : ∀ sg ∈ sgs, SigOk sg) : kqdOk 8 (.list (sgs.map dSig)) = true := by
  simp [kqdOk]
  intro a ha y hy
  exact h a ha y hy

theorem seg11 {D fl : Addr} {nn : Nat} (B : Base w tp loose mean mg mb h₀) (S : St h₀ L h [("fitting", .ref fl), ("told", .ref D), ("table", .ref x), ("newest", .ref nd), ("count", .int (c : Int) u)] (MM L ml vs n ol o1 o2 ob) Z) (R : Rm A 20) (H : LawH w Z L x ml nd vs od ol lv lns ms c)
    (T : TopE lns ms es) (hD : DatIn Z (.ref D) (.list (es.map dTold))) (hfl : (fl, lO xs nn) ∈ Z) (hxs : DatAll Z xs ((fitL lns ms).map dSig))
    (k : ∀ h' t' Z', Sub Z Z' → St h₀ L h' [("told", .ref D), ("table", .ref x), ("newest", .ref nd), ("count", .int (c : Int) u)] (MM L ml vs n ol o1 o2 ob) Z' → Q .next (up s h' t')) :
    wpAny (model PG w) A (exec (stAt w 11) (lawEnv w L fa cd)) Q E (up s h t) := by
  obtain ⟨f1, f2, f3⟩ := fitL_facts H
  have hel : es.length < 8 := Nat.lt_of_le_of_lt T.len H.msl
  have hsig : ∀ sg ∈ es.map (·.2.1), sg.length = c ∧ SigOk sg := fun sg hsg => f2 sg (T.sigs.mem_iff.mp hsg)
  have hxl : xs.length = (fitL lns ms).length := by have := hxs.length; simpa using this
  refine wpAny_If (wpAny_isTrue_Compare1 ?_ (by walk_at "ev"))
  refine x_bi B S (g_sorted w) b_sorted ?_ (by walk_at "ev") (by walk_at "ev") (by walk_at "ev") (by walk_at "ev")
  refine arg1 ?_
  refine e_comp (cl := []) (by walk_at "ev") (by walk_at "ev") (by walk_at "ev") (by intro _; rfl) ?_
  walk_at "nm"
  refine comp_list S R.hh hD (by simp; (first | lia | omega)) (by walk_at "ev") (by walk_at "ev") (by walk_at "ev")
    (fun j acc M' Z'' => M' = MM L ml vs n ol o1 o2 ob ∧ DatAll Z'' acc (((es.map (·.2.1)).take j).map dSig)) ⟨rfl, by simpa using DatAll.nil⟩ ?_ ?_
  · intro g' C D' I j u' acc kD M' Z' h' t' o' E' hg' hj hu hs' hJ₀ hal S₆ K hK
    obtain ⟨rfl, hacc⟩ := hJ₀
    have hj' : j < es.length := by simpa using hj
    have hu' : DatIn Z' u' (dTold es[j]) := by simpa using hu
    show wpAny _ _ _ _ _ _
    refine Subscript_ ?_
    refine e_loc S₆ (by walk_at "lk") ?_ (by walk_at "ev") (by walk_at "ev") (by walk_at "ev")
    refine e_int fun t₆ => ?_
    refine x_T 1 rfl S₆ hu' rfl (by simp) fun z hz => ?_
    refine hK _ _ <| CompE.mk (Sub.refl _) S₆ ⟨rfl, ?_⟩
    rw [List.take_succ_eq_append_getElem (by simpa using hj'), List.map_append]
    exact d_snoc hacc (by simpa using hz)
  · rintro C oC D1 acc kD M' Z₁ h' t' hs₁ ⟨rfl, hacc⟩ hal
    intro h₇ S₇
    rw [List.take_of_length_le (by simp)] at hacc
    have hal' : acc.length = es.length := by have := hacc.length; simpa using this
    refine r_sortedL S₇ (List.mem_append.mpr (.inl (.head _))) (by (first | lia | omega)) fun h₈ D2 S₈ => ?_
    refine r_sortSigs (M₁ := []) (c := c) S₈ hacc (by simp; (first | lia | omega)) (T.nodup H.msnd) (fun sg hsg => (hsig sg hsg).1) H.hc1 fun h₉ t₉ vs₉ n₉ sgs1 hp1 hs1 hd1 S₉ => ?_
    refine x_bi B S₉ (g_sorted w) b_sorted ?_ (by walk_at "ev") (by walk_at "ev") (by walk_at "ev") (by walk_at "ev")
    refine arg1 ?_
    refine e_loc S₉ (by walk_at "lk") ?_ (by walk_at "ev") (by walk_at "ev") (by walk_at "ev")
    refine r_sortedL S₉ (List.mem_append.mpr (.inr (hs₁ _ hfl))) (by (first | lia | omega)) fun h₁₀ D3 S₁₀ => ?_
    refine r_sortSigs (M₁ := []) (c := c) S₁₀ (hxs.mono hs₁) (by (first | lia | omega)) f1 (fun sg hsg => (f2 sg hsg).1) H.hc1 fun h₁₁ t₁₁ vs₁₁ n₁₁ sgs2 hp2 hs2 hd2 S₁₁ => ?_
    have same : sgs1 = sgs2 := sorted_same (lt := ltSig) (fun a b h => ltSig_asym h) (hp1.trans (T.sigs.trans hp2.symm)) hs1 hs2
    subst same
    have hok : kqdOk 8 (.list (sgs1.map dSig)) = true := okSigs fun sg hsg => (hsig sg (hp1.mem_iff.mp hsg)).2
    have S₁₁' : St h₀ L h₁₁ _ ((D3, lO vs₁₁ n₁₁) :: (D2, lO vs₉ n₉) :: (D1, lO acc kD) :: MM L ml vs n ol o1 o2 ob) Z₁ := S₁₁
    refine r_ne (W₁ := ((D3, lO vs₁₁ n₁₁) :: (D2, lO vs₉ n₉) :: (D1, lO acc kD) :: MM L ml vs n ol o1 o2 ob) ++ Z₁) (W₂ := ((D3, lO vs₁₁ n₁₁) :: (D2, lO vs₉ n₉) :: (D1, lO acc kD) :: MM L ml vs n ol o1 o2 ob) ++ Z₁) (d := .list (sgs1.map dSig)) (e := .list (sgs1.map dSig)) S₁₁' R
      (.list (n := n₉) (List.mem_append.mpr (.inl (.tail _ (.head _)))) (hd1.mono (subZ _ _))) (Sub.refl _) (.list (n := n₁₁) (List.mem_append.mpr (.inl (.head _))) (hd2.mono (subZ _ _))) (Sub.refl _) hok hok fun b hb => ?_
    have : b = false := by
      rw [← Bool.not_eq_true]; intro q; exact hb.mp q rfl
    subst this
    refine b_truthy ?_
    rw [if_neg (by decide)]
    exact wpAny_execs_nil (k _ _ Z₁ hs₁ (S₁₁'.tail.tail.tail.lc (by walk_at "lc")))

theorem seg12 {D : Addr} (B : Base w tp loose mean mg mb h₀) (S : St h₀ L h [("told", .ref D), ("table", .ref x), ("newest", .ref nd), ("count", .int (c : Int) u)] (MM L ml vs n ol o1 o2 ob) Z) (R : Rm A 20) (H : LawH w Z L x ml nd vs od ol lv lns ms c)
    (T : TopE lns ms es) (hD : DatIn Z (.ref D) (.list (es.map dTold)))
    (k : ∀ h' t' Z', Sub Z Z' → St h₀ L h' [("told", .ref D), ("table", .ref x), ("newest", .ref nd), ("count", .int (c : Int) u)] (MM L ml vs n ol o1 o2 ob) Z' → Q .next (up s h' t')) :
    wpAny (model PG w) A (exec (stAt w 12) (lawEnv w L fa cd)) Q E (up s h t) := by
  have hel : es.length < 8 := Nat.lt_of_le_of_lt T.len H.msl
  refine s_for ?_ (by intro _; rfl)
  walk_at "nm"
  refine for_list S R.hh hD
    (fun i l' M' Z' => l' = ([("told", .ref D), ("table", .ref x), ("newest", .ref nd), ("count", .int (c : Int) u)] : Loc) ∧ M' = MM L ml vs n ol o1 o2 ob) ⟨rfl, rfl⟩ ?_ ?_
  · intro i y l' M' Z' h' t' I o E' hi hy hs hJ₀ S₄ K hK
    obtain ⟨rfl, rfl⟩ := hJ₀
    have hi' : i < es.length := by simpa using hi
    have hy' : DatIn Z' y (dTold es[i]) := by simpa using hy
    obtain ⟨m, hm, hf, em⟩ := T.mem (List.getElem_mem hi')
    rw [em] at hy'
    refine as_name S₄ (fun h₅ t₅ S₅ => ?_) (by walk_at "ev") (by walk_at "ev") (by walk_at "ev")
    refine wpAny_execs_cons ?_
    walk_at "asn"
    refine x_def B S₅ (g_spots w) (k_166 w) ?_ (by walk_at "ev") (by walk_at "ev") (by walk_at "ev")
    refine arg2 (Subscript_ ?_)
    walk_at "nm"
    refine e_int fun t₆ => ?_
    refine x_T 1 rfl S₅ hy' rfl (by simp) fun z1 hz1 => ?_
    refine e_cell S₅ (c := L + 1 + 1) (o := ol) (by walk_at "ev") (by simp) H.hol ?_ (by walk_at "ev") (by walk_at "ev")
    refine ⟨B.at S₅, ?_⟩
    refine c_spots B S₅ R.less hz1 (H.hlv.mono hs) (H.len m hm) H.ll H.lz fun h₇ t₇ Z₇ sp hs₇ S₇ hsp => ?_
    have hsp' : DatIn Z₇ sp (dInts (plc lns m.1)) := by
      unfold dSpots at hsp; rw [show (entOf lns m).2.1 = m.1 from rfl, if_pos hf] at hsp; exact hsp
    refine n_store S₇ (fun h₈ t₈ S₈ => ?_) (by walk_at "ev") (by walk_at "ev") (by walk_at "ev")
    have hy8 := hy'.mono hs₇
    refine wpAny_execs_cons (wpAny_If ?_)
    refine isTrue_or (wpAny_isTrue_Compare1 ?_ (by walk_at "ev"))
    refine Subscript_ ?_
    walk_at "nm"
    refine e_int fun t₉ => ?_
    refine x_T 0 rfl S₈ hy8 rfl (by simp) fun z0 hz0 => ?_
    obtain ⟨tk0, rfl⟩ := d_int hz0
    refine x_def B S₈ (g_total w) (k_171 w) ?_ (by walk_at "ev") (by walk_at "ev") (by walk_at "ev")
    refine arg2 ?_
    walk_at "nm"
    refine e_cell S₈ (c := L + 1 + 1) (o := ol) (by walk_at "ev") (by simp) H.hol ?_ (by walk_at "ev") (by walk_at "ev")
    refine ⟨B.at S₈, ?_⟩
    refine c_total B S₈ R.less hf hsp' (H.hlv.mono (hs.trans hs₇)) (H.len m hm) H.ll H.lz fun h₁₀ t₁₀ u₁₀ S₁₀ => ?_
    refine i_ne (b_truthy ?_)
    have e1 : ((entOf lns m).1.1 != tot lns m.1) = false := by simp [entOf]
    rw [e1, if_neg (by decide)]
    refine isTrue_or (wpAny_isTrue_Compare1 ?_ (by walk_at "ev"))
    refine Subscript_ ?_
    refine e_loc S₁₀ (by walk_at "lk") ?_ (by walk_at "ev") (by walk_at "ev") (by walk_at "ev")
    refine e_int fun t₁₁ => ?_
    refine x_T 2 rfl S₁₀ hy8 rfl (by simp) fun z2 hz2 => ?_
    obtain ⟨tk2, rfl⟩ := d_str hz2
    refine Subscript_ ?_
    refine e_loc S₁₀ (by walk_at "lk") ?_ (by walk_at "ev") (by walk_at "ev") (by walk_at "ev")
    refine Subscript_ ?_
    refine e_loc S₁₀ (by walk_at "lk") ?_ (by walk_at "ev") (by walk_at "ev") (by walk_at "ev")
    refine e_int fun t₁₂ => ?_
    refine x_T 1 rfl S₁₀ hy8 rfl (by simp) fun z3 hz3 => ?_
    refine x_newGet S₁₀ (List.mem_append.mpr (.inr (hs₇ _ (hs _ H.hnd)))) (H.hN.mono (hs.trans hs₇)) (by have := R.hu; (first | lia | omega)) hz3 (f := m.2) (show ((entOf lns m).2.1, m.2) ∈ ms from hm) fun z4 t₁₃ hz4 => ?_
    obtain ⟨tk4, rfl⟩ := d_str hz4
    refine s_ne (b_truthy ?_)
    have e2 : ((entOf lns m).2.2 != m.2) = false := by simp [entOf]
    rw [e2, if_neg (by decide)]
    refine isTrue_or_nil ?_
    rw [if_neg (by decide)]
    exact wpAny_execs_nil (wpAny_execs_nil (hK _ _ <| TurnE.next hs₇ (S₁₀.lc (by walk_at "lc")) ⟨rfl, rfl⟩))
  · rintro l' M' Z' h' t' hs ⟨rfl, rfl⟩ S₄
    exact k _ _ Z' hs S₄
end
end Mine
end
section
open PySem PySem.W PySem.Calls PyProof.Rows
set_option maxHeartbeats 4000000
namespace Mine
section
variable {w : World} {A : Around} {E : Value → Shared → Prop} {s : Shared} {h₀ h : Heap} {t : Nat} {L : Addr} {l : Loc} {M M₁ M₂ Z : Led} {env : Env}
  {tp : Program} {loose : List Str} {mean : ExcName → Option Value} {mg mb : Str → Option Value} {prog : Program} {a : Addr} {n : Nat} {xs vs : List Value} {ds es : List Dat} {d e : Dat} {v y r : Value} {Q : Value → Shared → Prop}
variable {fa : Addr} {cd : Value} {Q : Flow → Shared → Prop}
variable {x ml nd : Addr} {od ol o1 o2 ob : Obj} {lv : Value} {lns : List Line} {ms : List (Sig × Str)} {c : Nat} {u : Tok} {es : List Ent}

theorem b_neq {p q : Bool} {Q : Value → Shared → Prop} (k : Q (.bool (p != q)) (up s h t)) : wpAny (model prog w) A (compareOp .NotEq (.bool p) (.bool q)) Q E (up s h t) := b_ne k

inductive OneJ (L ml : Addr) (vs : List Value) (n : Nat) (ol ob : Obj) (D x nd : Addr) (c : Nat) (u : Tok) (i : Nat) (l' : Loc) (M' Z' : Led) : Prop
  | mk (o1 o2 : Obj) (v1 v2 : Option Value) : l' = ([("told", .ref D), ("table", .ref x), ("newest", .ref nd), ("count", .int (c : Int) u)] : Loc) → M' = MM L ml vs n ol o1 o2 ob → o1.data = .cell v1 → o2.data = .cell v2 → OneJ L ml vs n ol ob D x nd c u i l' M' Z'
inductive TwoJ (L ml : Addr) (vs : List Value) (n : Nat) (ol ob : Obj) (D x nd : Addr) (c : Nat) (u : Tok) (i₀ : Nat) (u₅ : Tok) (I : Addr) (o : Obj) (i : Nat) (l' : Loc) (M' Z' : Led) : Prop
  | mk (o1 o2 : Obj) (v1 v2 : Option Value) : l' = ([("i", .int (i₀ : Int) u₅), ("told", .ref D), ("table", .ref x), ("newest", .ref nd), ("count", .int (c : Int) u)] : Loc) → M' = (I, o) :: MM L ml vs n ol o1 o2 ob → o1.data = .cell v1 → o2.data = .cell v2 → TwoJ L ml vs n ol ob D x nd c u i₀ u₅ I o i l' M' Z'
theorem seg13 {D : Addr} {v1₀ v2₀ : Option Value} (B : Base w tp loose mean mg mb h₀) (S : St h₀ L h [("told", .ref D), ("table", .ref x), ("newest", .ref nd), ("count", .int (c : Int) u)] (MM L ml vs n ol o1 o2 ob) Z) (R : Rm A 20) (H : LawH w Z L x ml nd vs od ol lv lns ms c)
    (T : TopE lns ms es) (hD : DatIn Z (.ref D) (.list (es.map dTold))) (hd1 : o1.data = .cell v1₀) (hd2 : o2.data = .cell v2₀)
    (k : ∀ h' t' Z' o1' o2', Sub Z Z' → St h₀ L h' [("told", .ref D), ("table", .ref x), ("newest", .ref nd), ("count", .int (c : Int) u)] (MM L ml vs n ol o1' o2' ob) Z' → Q .next (up s h' t')) :
    wpAny (model PG w) A (exec (stAt w 13) (lawEnv w L fa cd)) Q E (up s h t) := by
  have hel : es.length < 8 := Nat.lt_of_le_of_lt T.len H.msl
  have hDz : (es.map dTold).length ≤ 1000 := by simp; (first | lia | omega)
  refine s_for ?_ (by intro _; rfl)
  refine x_ty B S (g_range w) b_range ?_ (by walk_at "ev") (by walk_at "ev") (by walk_at "ev") (by walk_at "ev")
  refine arg1 ?_
  refine x_bi B S (g_len w) b_len ?_ (by walk_at "ev") (by walk_at "ev") (by walk_at "ev") (by walk_at "ev")
  refine arg1 ?_
  walk_at "nm"
  refine r_lenL S hD hDz fun tq uq => ?_
  refine r_range S fun h₃ t₃ ra t₄ u₄ v₄ Z₁ S₃ hs₁ hr₁ => ?_
  refine for_range (m := (es.map dTold).length) S₃ R.hh hr₁ (by (first | lia | omega))
    (OneJ L ml vs n ol ob D x nd c u) ⟨o1, o2, _, _, rfl, rfl, hd1, hd2⟩ ?_ ?_
  · intro i u₅ l' M' Z' h' t' I o E' hi hs hJ₀ S₄ K hK
    obtain ⟨o1, o2, v1, v2, rfl, rfl, hd1, hd2⟩ := hJ₀
    have hi' : i < es.length := by simpa using hi
    have hsub := hs₁.trans hs
    refine as_name S₄ (fun h₅ t₅ S₅ => ?_) (by walk_at "ev") (by walk_at "ev") (by walk_at "ev")
    refine wpAny_execs_cons (s_for ?_ (by intro _; rfl))
    refine x_ty B S₅ (g_range w) b_range ?_ (by walk_at "ev") (by walk_at "ev") (by walk_at "ev") (by walk_at "ev")
    refine arg1 ?_
    refine x_bi B S₅ (g_len w) b_len ?_ (by walk_at "ev") (by walk_at "ev") (by walk_at "ev") (by walk_at "ev")
    refine arg1 ?_
    walk_at "nm"
    refine r_lenL S₅ (hD.mono hsub) hDz fun tq uq => ?_
    refine r_range S₅ fun h₆ t₆ rb t₇ u₇ v₇ Z₂ S₆ hs₂ hr₂ => ?_
    refine for_range (m := (es.map dTold).length) S₆ R.hh hr₂ (by (first | lia | omega))
      (TwoJ L ml vs n ol ob D x nd c u i u₅ I o) ⟨o1, o2, _, _, rfl, rfl, hd1, hd2⟩ ?_ ?_
    · intro j u₈ l' M' Z₃ h' t' I' o' E₂ hj hs₃ hJ₀ S₇ K hK
      obtain ⟨o1, o2, v1, v2, rfl, rfl, hd1, hd2⟩ := hJ₀
      have hj' : j < es.length := by simpa using hj
      have hsub3 := hsub.trans (hs₂.trans hs₃)
      obtain ⟨m1, hm1, hf1, em1⟩ := T.mem (List.getElem_mem hi')
      obtain ⟨m2, hm2, hf2, em2⟩ := T.mem (List.getElem_mem hj')
      refine as_name S₇ (fun h₈ t₈ S₈ => ?_) (by walk_at "ev") (by walk_at "ev") (by walk_at "ev")
      -- one
      refine wpAny_execs_cons ?_
      walk_at "asn"
      refine x_def B S₈ (g_spots w) (k_166 w) ?_ (by walk_at "ev") (by walk_at "ev") (by walk_at "ev")
      refine arg2 (Subscript_ (Subscript_ ?_))
      walk_at "nm"
      walk_at "nm"
      refine x_L i rfl S₈ (hD.mono hsub3) (d := dTold es[i]) (by simp [hi']) hDz fun z hz => ?_
      refine e_int fun t₉ => ?_
      refine x_T 1 rfl S₈ hz rfl (by simp) fun z1 hz1 => ?_
      rw [em1] at hz1
      refine e_cell S₈ (c := L + 1 + 1) (o := ol) (by walk_at "ev") (by simp) H.hol ?_ (by walk_at "ev") (by walk_at "ev")
      refine ⟨B.at S₈, ?_⟩
      refine c_spots B S₈ R.less hz1 (H.hlv.mono hsub3) (H.len m1 hm1) H.ll H.lz fun h₁₀ t₁₀ Z₄ sp1 hs₄ S₁₀ hsp1 => ?_
      have hsp1' : DatIn Z₄ sp1 (dInts (plc lns m1.1)) := by
        unfold dSpots at hsp1; rw [show (entOf lns m1).2.1 = m1.1 from rfl, if_pos hf1] at hsp1; exact hsp1
      refine n_storeC (M₁ := [(I', o'), (I, o), (ml, lO vs n), (L + 1 + 1, ol)]) S₁₀ (by walk_at "ev") hd1 (fun h₁₁ o1' hd1' S₁₁ => ?_) (by walk_at "ev") (by walk_at "ev")
      -- two
      refine wpAny_execs_cons ?_
      walk_at "asn"
      refine x_def B S₁₁ (g_spots w) (k_166 w) ?_ (by walk_at "ev") (by walk_at "ev") (by walk_at "ev")
      refine arg2 (Subscript_ (Subscript_ ?_))
      walk_at "nm"
      walk_at "nm"
      refine x_L j rfl S₁₁ (hD.mono (hsub3.trans hs₄)) (d := dTold es[j]) (by simp [hj']) hDz fun z hz => ?_
      refine e_int fun t₁₂ => ?_
      refine x_T 1 rfl S₁₁ hz rfl (by simp) fun z2 hz2 => ?_
      rw [em2] at hz2
      refine e_cell S₁₁ (c := L + 1 + 1) (o := ol) (by walk_at "ev") (by simp) H.hol ?_ (by walk_at "ev") (by walk_at "ev")
      refine ⟨B.at S₁₁, ?_⟩
      refine c_spots B S₁₁ R.less hz2 (H.hlv.mono (hsub3.trans hs₄)) (H.len m2 hm2) H.ll H.lz fun h₁₃ t₁₃ Z₅ sp2 hs₅ S₁₃ hsp2 => ?_
      have hsp2' : DatIn Z₅ sp2 (dInts (plc lns m2.1)) := by
        unfold dSpots at hsp2; rw [show (entOf lns m2).2.1 = m2.1 from rfl, if_pos hf2] at hsp2; exact hsp2
      refine n_storeC (M₁ := [(I', o'), (I, o), (ml, lO vs n), (L + 1 + 1, ol), (L + 1 + 1 + 1, o1')]) S₁₃ (by walk_at "ev") hd2 (fun h₁₄ o2' hd2' S₁₄ => ?_) (by walk_at "ev") (by walk_at "ev")
      have hlv5 := H.hlv.mono (hsub3.trans (hs₄.trans hs₅))
      have hsp1'' := hsp1'.mono hs₅
      have S₁₄' : St h₀ L h₁₄ _ ((I', o') :: (I, o) :: MM L ml vs n ol o1' o2' ob) Z₅ := S₁₄
      have pl1 : (plc lns m1.1).length = c := by have := H.len m1 hm1; have := H.lnsl; simp [plc]; (first | lia | omega)
      have pl2 : (plc lns m2.1).length = c := by have := H.len m2 hm2; have := H.lnsl; simp [plc]; (first | lia | omega)
      -- before
      refine wpAny_execs_cons (wpAny_If (wpAny_isTrue_Compare1 ?_ (by walk_at "ev")))
      refine x_def B S₁₄' (g_before w) (k_178 w) ?_ (by walk_at "ev") (by walk_at "ev") (by walk_at "ev")
      refine arg3 ?_
      refine e_cell S₁₄' (c := L + 1 + 1 + 1) (o := o1') (by walk_at "ev") (by simp) hd1' ?_ (by walk_at "ev") (by walk_at "ev")
      refine e_cell S₁₄' (c := L + 1 + 1 + 1 + 1) (o := o2') (by walk_at "ev") (by simp) hd2' ?_ (by walk_at "ev") (by walk_at "ev")
      refine e_cell S₁₄' (c := L + 1 + 1) (o := ol) (by walk_at "ev") (by simp) H.hol ?_ (by walk_at "ev") (by walk_at "ev")
      refine ⟨B.at S₁₄', ?_⟩
      refine c_before B S₁₄' R.less hf1 hf2 hsp1'' hsp2' hlv5 (H.len m1 hm1) (H.len m2 hm2) H.ll H.lz fun h₁₅ t₁₅ Z₆ hs₆ S₁₅ => ?_
      refine wpAny_Compare1 ?_ (by walk_at "ev")
      refine e_loc S₁₅ (by walk_at "lk") ?_ (by walk_at "ev") (by walk_at "ev") (by walk_at "ev")
      refine e_loc S₁₅ (by walk_at "lk") ?_ (by walk_at "ev") (by walk_at "ev") (by walk_at "ev")
      refine i_lt ?_
      refine b_neq (b_truthy ?_)
      have ord : before lns m1.1 m2.1 = decide (i < j) := by
        rw [before_key]
        have := order_of T.sorted hi' hj'
        rw [em1, em2] at this
        exact this
      have e1 : (before lns m1.1 m2.1 != decide ((i : Int) < (j : Int))) = false := by
        rw [ord]
        by_cases h : i < j
        · rw [decide_eq_true h, decide_eq_true (by (first | lia | omega))]; rfl
        · rw [decide_eq_false h, decide_eq_false (by (first | lia | omega))]; rfl
      rw [e1, if_neg (by decide)]
      refine wpAny_execs_nil (wpAny_execs_cons (wpAny_If ?_))
      refine isTrue_and (wpAny_isTrue_Compare1 ?_ (by walk_at "ev"))
      refine e_loc S₁₅ (by walk_at "lk") ?_ (by walk_at "ev") (by walk_at "ev") (by walk_at "ev")
      refine e_loc S₁₅ (by walk_at "lk") ?_ (by walk_at "ev") (by walk_at "ev") (by walk_at "ev")
      refine i_gt (b_truthy ?_)
      by_cases hij : (j : Int) < (i : Int)
      · rw [decide_eq_true hij, if_pos rfl]
        refine isTrue_and (wpAny_isTrue_Compare1 ?_ (by walk_at "ev"))
        refine e_comp (cl := [("two", L + 1 + 1 + 1 + 1), ("one", L + 1 + 1 + 1)]) (by walk_at "ev") (by walk_at "ev") (by walk_at "ev") (by intro _; rfl) ?_
        refine x_ty B S₁₅ (g_range w) b_range ?_ (by walk_at "ev") (by walk_at "ev") (by walk_at "ev") (by walk_at "ev")
        refine arg1 ?_
        refine e_loc S₁₅ (by walk_at "lk") ?_ (by walk_at "ev") (by walk_at "ev") (by walk_at "ev")
        refine r_range S₁₅ fun h₁₆ t₁₆ rc t₁₇ u₁₇ v₁₇ Z₇ S₁₆ hs₇ hr₇ => ?_
        have hsp1z := hsp1''.mono (hs₆.trans hs₇)
        have hsp2z := hsp2'.mono (hs₆.trans hs₇)
        have hc3 := H.hc3
        refine comp_range (m := c) S₁₆ R.hh hr₇ (by (first | lia | omega)) (by walk_at "ev") (by walk_at "ev") (by walk_at "ev")
          (fun q acc M' Z'' => M' = (I', o') :: (I, o) :: MM L ml vs n ol o1' o2' ob ∧ ∃ as, IntsAre acc as ∧ ((∃ p, p < q ∧ ∃ (h1 : p < (plc lns m1.1).length) (h2 : p < (plc lns m2.1).length), (plc lns m2.1)[p] < (plc lns m1.1)[p]) → as ≠ [])) ⟨rfl, [], .nil, fun ⟨p, hp, _⟩ => by (first | lia | omega)⟩ ?_ ?_
        · intro g' C D' I'' q uq acc kD M' Z' h' t' o'' E₃ hg' hq hs' hJ₀ hal S₁₇ K hK
          obtain ⟨rfl, as, hacc, himp⟩ := hJ₀
          have q1 : q < (plc lns m1.1).length := by (first | lia | omega)
          have q2 : q < (plc lns m2.1).length := by (first | lia | omega)
          have hz1 : ((plc lns m1.1).map Dat.int).length ≤ 1000 := by simp; (first | lia | omega)
          have hz2 : ((plc lns m2.1).map Dat.int).length ≤ 1000 := by simp; (first | lia | omega)
          show wpAny _ _ _ _ _ _
          refine wpAny_isTrue_Compare1 ?_ (by walk_at "ev")
          refine Subscript_ ?_
          refine e_cell S₁₇ (c := L + 1 + 1 + 1) (o := o1') (by walk_at "ev") (by simp) hd1' ?_ (by walk_at "ev") (by walk_at "ev")
          refine e_loc S₁₇ (by walk_at "lk") ?_ (by walk_at "ev") (by walk_at "ev") (by walk_at "ev")
          refine x_L q rfl S₁₇ (hsp1z.mono hs') (d := .int (plc lns m1.1)[q]) (by rw [List.getElem?_map, List.getElem?_eq_getElem q1]; rfl) hz1 fun z hz => ?_
          obtain ⟨tk1, rfl⟩ := d_int hz
          refine Subscript_ ?_
          refine e_cell S₁₇ (c := L + 1 + 1 + 1 + 1) (o := o2') (by walk_at "ev") (by simp) hd2' ?_ (by walk_at "ev") (by walk_at "ev")
          refine e_loc S₁₇ (by walk_at "lk") ?_ (by walk_at "ev") (by walk_at "ev") (by walk_at "ev")
          refine x_L q rfl S₁₇ (hsp2z.mono hs') (d := .int (plc lns m2.1)[q]) (by rw [List.getElem?_map, List.getElem?_eq_getElem q2]; rfl) hz2 fun z hz => ?_
          obtain ⟨tk2, rfl⟩ := d_int hz
          refine i_gt (b_truthy ?_)
          by_cases hpq : (plc lns m2.1)[q] < (plc lns m1.1)[q]
          · rw [decide_eq_true hpq, if_pos rfl]
            refine e_int fun t₁₈ => hK _ _ <| CompE.mk (Sub.refl _) S₁₇ ⟨rfl, as ++ [1], IntsAre.append hacc (.cons _ _ .nil), fun _ => by simp⟩
          · rw [decide_eq_false hpq, if_neg (by decide)]
            refine hK _ _ <| CompE.mk (Sub.refl _) S₁₇ ⟨rfl, as, hacc, fun ⟨p, hp, h1, h2, h3⟩ => ?_⟩
            rcases Nat.lt_succ_iff_lt_or_eq.mp hp with hp | hp
            · exact himp ⟨p, hp, h1, h2, h3⟩
            · subst hp; exact absurd h3 hpq
        · rintro C oC D' acc kD M' Z'' h'' t'' hs' ⟨rfl, as, hacc, himp⟩ hal
          intro h₁₈ S₁₈
          have hne : as ≠ [] := himp (by
            have hlt : ltKey (tot lns m2.1, plc lns m2.1) (tot lns m1.1, plc lns m1.1) = true := by
              have := order_of T.sorted hj' hi'
              rw [em1, em2, decide_eq_true (by (first | lia | omega))] at this
              exact this
            obtain ⟨p, h1, h2, h3⟩ := some_later hf1 hf2 (H.len m1 hm1) (H.len m2 hm2) H.hok hlt
            exact ⟨p, by (first | lia | omega), h1, h2, h3⟩)
          refine List_ (args_nil ?_)
          refine r_list S₁₈ (by decide) (fun h₁₉ b₁₉ S₁₉ => ?_)
          refine r_eq (W₁ := ((b₁₉, lO [] 0) :: (D', lO acc kD) :: (I', o') :: (I, o) :: MM L ml vs n ol o1' o2' ob) ++ Z'') (W₂ := ((b₁₉, lO [] 0) :: (D', lO acc kD) :: (I', o') :: (I, o) :: MM L ml vs n ol o1' o2' ob) ++ Z'') (d := dInts as) (e := .list []) S₁₉ R
            (.list (n := kD) (List.mem_append.mpr (.inl (.tail _ (.head _)))) (datInts hacc)) (Sub.refl _) (.list (n := 0) (List.mem_append.mpr (.inl (.head _))) .nil) (Sub.refl _) (okInts _) (by simp [kqdOk]) fun b hb => ?_
          have : b = false := by
            rw [← Bool.not_eq_true]; intro q
            have := hb.mp q
            simp at this
            exact hne this
          subst this
          refine b_truthy ?_
          rw [if_neg (by decide), if_neg (by decide)]
          exact wpAny_execs_nil (wpAny_execs_nil (hK _ _ <| TurnE.next (hs₄.trans (hs₅.trans (hs₆.trans (hs₇.trans hs')))) (S₁₉.tail.tail.lc (by walk_at "lc")) ⟨o1', o2', _, _, rfl, rfl, hd1', hd2'⟩))
      · rw [decide_eq_false hij, if_neg (by decide), if_neg (by decide)]
        exact wpAny_execs_nil (wpAny_execs_nil (hK _ _ <| TurnE.next (hs₄.trans (hs₅.trans hs₆)) (S₁₅.lc (by walk_at "lc")) ⟨o1', o2', _, _, rfl, rfl, hd1', hd2'⟩))
    · rintro l' M' Z₃ h' t' hs₃ ⟨o1, o2, v1, v2, rfl, rfl, hd1, hd2⟩ S₇
      exact wpAny_execs_nil (hK _ _ <| TurnE.next (hs₂.trans hs₃) (S₇.lc (by walk_at "lc")) ⟨o1, o2, v1, v2, rfl, rfl, hd1, hd2⟩)
  · rintro l' M' Z' h' t' hs ⟨o1, o2, v1, v2, rfl, rfl, hd1, hd2⟩ S₄
    exact k _ _ Z' o1 o2 (hs₁.trans hs) S₄
end
end Mine
end
section
open PySem PySem.W PySem.Calls PyProof.Rows
set_option maxHeartbeats 4000000
namespace Mine
section
variable {w : World} {A : Around} {E : Value → Shared → Prop} {s : Shared} {h₀ h : Heap} {t : Nat} {L : Addr} {l : Loc} {M M₁ M₂ Z : Led} {env : Env}
  {tp : Program} {loose : List Str} {mean : ExcName → Option Value} {mg mb : Str → Option Value} {prog : Program} {a : Addr} {n : Nat} {xs vs : List Value} {ds es : List Dat} {d e : Dat} {v y r : Value} {Q : Value → Shared → Prop}
variable {fa : Addr} {cd : Value} {Q : Flow → Shared → Prop}
variable {x x2 ml ml2 nd : Addr} {od ol o1 o2 ob : Obj} {lv : Value} {lns : List Line} {ms : List (Sig × Str)} {c : Nat} {u : Tok} {es : List Ent} {D : Addr} {vs2 : List Value} {n2 : Nat}

noncomputable abbrev lB (D x nd : Addr) (c : Nat) (u : Tok) : Loc := [("told", .ref D), ("table", .ref x), ("newest", .ref nd), ("count", .int (c : Int) u)]
noncomputable abbrev lC (x2 D x nd : Addr) (c : Nat) (u : Tok) : Loc := [("other", .ref x2), ("told", .ref D), ("table", .ref x), ("newest", .ref nd), ("count", .int (c : Int) u)]

theorem seg14 (B : Base w tp loose mean mg mb h₀) (S : St h₀ L h (lB D x nd c u) M Z) (R : Rm A 20)
    (k : ∀ h' t' Z' x2 gd og, Sub Z Z' → og.IsDictOf (PySem.strKind PG w) [] → Inst Z' x2 gd → St h₀ L h' (lC x2 D x nd c u) ((gd, og) :: M) Z' → Q .next (up s h' t')) :
    wpAny (model PG w) A (exec (stAt w 14) (lawEnv w L fa cd)) Q E (up s h t) := by
  walk_at "asn"
  refine Call_ (e_glob B S (g_MT w) (callWith_K0 (B.at S) (k_124 w) ?_) (by walk_at "ev") (by walk_at "ev") (by walk_at "ev"))
  refine c_new B S R.less fun h₂ t₂ Z₂ x2 gd og hs₂ S₂ hd I => ?_
  exact n_store S₂ (fun h₄ t₄ S₄ => k _ _ Z₂ x2 gd og hs₂ hd I S₄) (by walk_at "ev") (by walk_at "ev") (by walk_at "ev")

theorem seg15 {gd : Addr} {og : Obj} (B : Base w tp loose mean mg mb h₀) (S : St h₀ L h (lC x2 D x nd c u) ((gd, og) :: M) Z) (R : Rm A 20) (hd : og.IsDictOf (PySem.strKind PG w) []) (I : Inst Z x2 gd)
    (k : ∀ h' t' Z' ml n, Sub Z Z' → TabIn w Z' x2 ml (xyz c) → St h₀ L h' (lC x2 D x nd c u) ((ml, lO [] n) :: M) Z' → Q .next (up s h' t')) :
    wpAny (model PG w) A (exec (stAt w 15) (lawEnv w L fa cd)) Q E (up s h t) := by
  refine wpAny_Expr (MethodCall_ ?_ (by rfl))
  walk_at "nm"
  refine m_inst B S I (f := 74) (by kernel_rfl!) (by kernel_rfl!) (by kernel_rfl!) (by decide +kernel) ?_
  refine cw_m (fn_setgen w) B (arg2 (e_str fun t₁ => ?_))
  refine Subscript_ (List_ (arg3 (e_str fun t₂ => e_str fun t₃ => e_str fun t₄ => ?_)))
  refine r_list S (by simp) (fun h₅ lx S₅ => ?_)
  refine wpAny_Slice ?_
  show wpAny _ _ (pure Value.none) _ _ _
  refine wpAny_pure ?_
  show wpAny _ _ (eval _ _) _ _ _
  walk_at "nm"
  show wpAny _ _ (pure Value.none) _ _ _
  refine wpAny_pure ?_
  refine x_slice (lo := none) (hi := some (c : Int)) (ws := List.take c _) S₅ (List.mem_append.mpr (.inl (.head _))) .none (.int _ _) (pick_upto _ c) (by simp) fun h₆ D S₆ => ?_
  obtain ⟨Z₃, S₇, hs₃, hfd⟩ := fz_list (ds := xyz c) S₆ (d_take (.cons (.str _ _) (.cons (.str _ _) (.cons (.str _ _) .nil))) c)
  refine ⟨S₇.stays', ?_⟩
  refine c_setgen B S₇.tail R.less hd (I.mono hs₃) hfd (by simp; (first | lia | omega)) fun h₈ t₈ Z₄ ml n hs₄ S₈ T => ?_
  exact k _ _ Z₄ ml n (hs₃.trans hs₄) T S₈

theorem seg16 (B : Base w tp loose mean mg mb h₀) (S : St h₀ L h (lC x2 D x nd c u) ((ml2, lO [] n2) :: M) Z) (R : Rm A 20) (H : LawH w Z L x ml nd vs od ol lv lns ms c) (T2 : TabIn w Z x2 ml2 (xyz c))
    (k : ∀ h' t' Z' vs2 n2 (ms' : List (Sig × Str)), Sub Z Z' → ms'.Perm ms → (∀ m ∈ ms', m ∈ ms) → DatAll Z' vs2 (ms'.map dMeth) → St h₀ L h' (lC x2 D x nd c u) ((ml2, lO vs2 n2) :: M) Z' → Q .next (up s h' t')) :
    wpAny (model PG w) A (exec (stAt w 16) (lawEnv w L fa cd)) Q E (up s h t) := by
  have hml := H.msl
  refine s_for ?_ (by intro _; rfl)
  refine x_bi B S (g_sorted w) b_sorted ?_ (by walk_at "ev") (by walk_at "ev") (by walk_at "ev") (by walk_at "ev")
  refine arg1 ?_
  walk_at "nm"
  refine r_sortedN S R.hh (List.mem_append.mpr (.inr H.hnd)) H.lo H.hN (by (first | lia | omega)) fun h₂ t₂ D2 ws hws S₂ => ?_
  refine r_sortSigs (M₁ := []) (c := c) S₂ hws (by simp; (first | lia | omega)) H.msnd (fun sg hsg => by
    obtain ⟨m, hm, rfl⟩ := List.mem_map.mp hsg
    exact (H.msok m hm).1) H.hc1 fun h₃ t₃ ws₃ n₃ sgs hp hso hd₃ S₃ => ?_
  obtain ⟨ms', hk, hperm, hmem⟩ := again_of H.msnd hp
  have hnd' : (ms'.map (·.1)).Nodup := by rw [hk]; exact hp.nodup_iff.mpr H.msnd
  have hlen' : ms'.length = ms.length := hperm.length_eq
  have hok' : ∀ m ∈ ms', MOk c m := fun m hm => H.msok m (hmem m hm)
  have S₄ : St h₀ L h₃ (lC x2 D x nd c u) ((ml2, lO [] n2) :: M) ((D2, lO ws₃ n₃) :: Z) := St.freeze S₃
  have hD2 : DatIn ((D2, lO ws₃ n₃) :: Z) (.ref D2) (.list ((ms'.map (·.1)).map dSig)) := by rw [hk]; exact .list (.head _) (hd₃.mono (Sub.cons _ _))
  refine for_list S₄ R.hh hD2
    (fun i l' M' Z' => ∃ vs n, l' = lC x2 D x nd c u ∧ M' = (ml2, lO vs n) :: M ∧ DatAll Z' vs ((ms'.take i).map dMeth)) ⟨[], n2, rfl, rfl, .nil⟩ ?_ ?_
  · intro i y l' M' Z' h' t' I o E' hi hy hs hJ₀ S₅ K hK
    obtain ⟨vs₅, n₅, rfl, rfl, hvs₅⟩ := hJ₀
    have hi' : i < ms'.length := by simpa using hi
    have hy' : DatIn Z' y (dSig ms'[i].1) := by simpa using hy
    have hsub := (Sub.cons (D2, lO ws₃ n₃) Z).trans hs
    have hmi := hok' _ (List.getElem_mem hi')
    have hc3 := H.hc3
    refine as_name S₅ (fun h₆ t₆ S₆ => ?_) (by walk_at "ev") (by walk_at "ev") (by walk_at "ev")
    refine wpAny_execs_cons (wpAny_Expr (MethodCall_ ?_ (by rfl)))
    walk_at "nm"
    refine m_inst B S₆ (T2.mono hsub).inst (f := 95) (by kernel_rfl!) (by kernel_rfl!) (by kernel_rfl!) (by decide +kernel) ?_
    refine cw_m (fn_setm w) B (arg3 (e_str fun t₇ => ?_))
    walk_at "nm"
    refine Subscript_ ?_
    walk_at "nm"
    walk_at "nm"
    refine x_newGet S₆ (List.mem_append.mpr (.inr (hsub _ H.hnd))) (H.hN.mono hsub) (by have := R.hu; (first | lia | omega)) hy' (f := ms'[i].2) (hmem _ (List.getElem_mem hi')) fun z t₈ hz => ?_
    refine ⟨S₆.stays', ?_⟩
    refine c_setm (M₁ := [(I, o)]) B S₆ R.less (T2.mono hsub) hy' hz hvs₅ (hmi.1.trans (xyz_len hc3).symm) (by rw [xyz_len hc3]; (first | lia | omega)) (by rw [List.length_take]; (first | lia | omega)) hmi.sig (fun m hm => (hok' m (List.mem_of_mem_take hm)).sig) fun h₉ t₉ Z₉ vs₉ n₉ hs₉ S₉ hvs₉ => ?_
    refine wpAny_execs_nil (hK _ _ <| TurnE.next hs₉ (S₉.lc (by walk_at "lc")) ⟨vs₉, n₉, rfl, rfl, ?_⟩)
    have em : ms'.take (i + 1) = setM (ms'.take i) ms'[i].1 ms'[i].2 := by
      rw [List.take_succ_eq_append_getElem hi', setM_none]
      intro k hk' e
      have hk2 : k < i := by rw [List.length_take] at hk'; (first | lia | omega)
      rw [List.getElem_take] at e
      have := (List.getElem_inj (xs := ms'.map (·.1)) (i := k) (j := i) (h₀ := by simp; (first | lia | omega)) (h₁ := by simpa using hi') hnd').mp (by simpa using e)
      first | lia | omega
    rw [em]; exact hvs₉
  · rintro l' M' Z' h' t' hs ⟨vs₅, n₅, rfl, rfl, hvs₅⟩ S₅
    rw [List.take_of_length_le (by simp)] at hvs₅
    exact k _ _ Z' vs₅ n₅ ms' ((Sub.cons _ _).trans hs) hperm hmem hvs₅ S₅

theorem told_ok (H : LawH w Z L x ml nd vs od ol lv lns ms c) (T : TopE lns ms es) : ∀ e ∈ es, kqdOk 7 (dTold e) = true := by
  intro e he
  obtain ⟨m, hm, hf, rfl⟩ := T.mem he
  have h1 := H.msok m hm
  have h2 : ∀ y ∈ m.1, PyData.strOk y = true := h1.sig
  simp only [kqdOk, List.all_cons, List.all_nil, Bool.and_true, Bool.and_eq_true, List.all_eq_true, List.mem_map]
  refine ⟨trivial, ?_, h1.2.2⟩
  rintro d ⟨y, hy, rfl⟩
  exact h2 y hy
theorem tolds_ok {es' : List Ent} (h : ∀ e ∈ es', kqdOk 7 (dTold e) = true) : kqdOk 8 (.list (es'.map dTold)) = true := by
  simp only [kqdOk, List.all_eq_true, List.mem_map]
  rintro d ⟨e, he, rfl⟩
  exact h e he

theorem seg17 (B : Base w tp loose mean mg mb h₀) (S : St h₀ L h (lC x2 D x nd c u) ((ml2, lO vs2 n2) :: MM L ml vs n ol o1 o2 ob) Z) (R : Rm A 20) (H : LawH w Z L x ml nd vs od ol lv lns ms c) (T2 : TabIn w Z x2 ml2 (xyz c)) (T : TopE lns ms es) (hD : DatIn Z (.ref D) (.list (es.map dTold))) (hT : LamTab lamPos lamQ Z ob)
    {ms' : List (Sig × Str)} (hp : ms'.Perm ms) (hmem : ∀ m ∈ ms', m ∈ ms) (hvs2 : DatAll Z vs2 (ms'.map dMeth))
    (k : ∀ h' t' Z' ob', Sub Z Z' → LamTab lamPos lamQ Z' ob' → St h₀ L h' (lB D x nd c u) (MM L ml vs n ol o1 o2 ob') Z' → Q .next (up s h' t')) :
    wpAny (model PG w) A (exec (stAt w 17) (lawEnv w L fa cd)) Q E (up s h t) := by
  have hlen' : ms'.length = ms.length := hp.length_eq
  refine wpAny_If (wpAny_isTrue_Compare1 ?_ (by walk_at "ev"))
  refine MethodCall_ ?_ (by rfl)
  walk_at "nm"
  refine m_inst B S T2.inst (f := 107) (by kernel_rfl!) (by kernel_rfl!) (by kernel_rfl!) (by decide +kernel) ?_
  refine cw_m (fn_cand w) B (arg2 (e_str fun t₁ => ?_))
  refine e_cell S (c := L + 1 + 1) (o := ol) (by walk_at "ev") (by simp) H.hol ?_ (by walk_at "ev") (by walk_at "ev")
  refine ⟨S.stays', ?_⟩
  refine c_cand (n := n2) (M₁ := [(ml2, lO vs2 n2), (ml, lO vs n), (L + 1 + 1, ol), (L + 1 + 1 + 1, o1), (L + 1 + 1 + 1 + 1, o2)]) (M₂ := []) B S R.less T2 (by simp) hvs2 H.hlv (fun m hm => H.len m (hmem m hm)) ((hp.map _).nodup_iff.mpr H.msnd) (by have := H.msl; (first | lia | omega)) H.ll H.lz hT fun h₂ t₂ Z₂ ob' D' es' hs₂ S₂ hT' hp' hso' hD' => ?_
  have same : es' = es := T.same ⟨hp', hso'⟩ hp
  subst same
  refine e_loc S₂ (by walk_at "lk") ?_ (by walk_at "ev") (by walk_at "ev") (by walk_at "ev")
  have hok := tolds_ok (told_ok H T)
  refine r_ne (W₁ := Z₂) (W₂ := Z₂) S₂ R hD' (subZ _ _) (hD.mono hs₂) (subZ _ _) hok hok fun b hb => ?_
  have : b = false := by rw [← Bool.not_eq_true]; intro q; exact hb.mp q rfl
  subst this
  refine b_truthy ?_
  rw [if_neg (by decide)]
  have S₃ : St h₀ L h₂ (lC x2 D x nd c u) ((ml2, lO vs2 n2) :: MM L ml vs n ol o1 o2 ob') Z₂ := S₂
  exact wpAny_execs_nil (k _ _ Z₂ ob' hs₂ hT' (S₃.tail.lc (by walk_at "lc")))

theorem seg18 (B : Base w tp loose mean mg mb h₀) (S : St h₀ L h (lB D x nd c u) (MM L ml vs n ol o1 o2 ob) Z) (R : Rm A 20) (H : LawH w Z L x ml nd vs od ol lv lns ms c) (T : TopE lns ms es) (hD : DatIn Z (.ref D) (.list (es.map dTold))) (hT : LamTab lamPos lamQ Z ob)
    (k : ∀ h' t' Z' ob', Sub Z Z' → LamTab lamPos lamQ Z' ob' → St h₀ L h' (lB D x nd c u) (MM L ml vs n ol o1 o2 ob') Z' → Q .next (up s h' t')) :
    wpAny (model PG w) A (exec (stAt w 18) (lawEnv w L fa cd)) Q E (up s h t) := by
  have hel : es.length < 8 := Nat.lt_of_le_of_lt T.len H.msl
  have hok := tolds_ok (told_ok H T)
  refine wpAny_If (wpAny_isTrue_Compare1 ?_ (by walk_at "ev"))
  refine MethodCall_ ?_ (by rfl)
  walk_at "nm"
  refine m_inst B S H.T.inst (f := 114) (by kernel_rfl!) (by kernel_rfl!) (by kernel_rfl!) (by decide +kernel) ?_
  refine cw_m (fn_sel w) B (arg2 (e_str fun t₁ => ?_))
  refine e_cell S (c := L + 1 + 1) (o := ol) (by walk_at "ev") (by simp) H.hol ?_ (by walk_at "ev") (by walk_at "ev")
  refine ⟨S.stays', ?_⟩
  refine c_sel (n := n) (M₁ := [(ml, lO vs n), (L + 1 + 1, ol), (L + 1 + 1 + 1, o1), (L + 1 + 1 + 1 + 1, o2)]) (M₂ := []) B S R.less H.T (by simp) H.hms H.hlv H.len H.msnd (by have := H.msl; (first | lia | omega)) H.ll H.lz hT fun h₂ t₂ Z₂ ob' y es' hs₂ S₂ hT' hp' hso' hy => ?_
  have same : es' = es := T.same ⟨hp', hso'⟩ (List.Perm.refl _)
  subst same
  have S₂' : St h₀ L h₂ (lB D x nd c u) (MM L ml vs n ol o1 o2 ob') Z₂ := S₂
  refine wpAny_mono (Q := fun v s' => ∃ h₃ t₃, s' = up s h₃ t₃ ∧ St h₀ L h₃ (lB D x nd c u) (MM L ml vs n ol o1 o2 ob') Z₂ ∧ DatIn Z₂ v (selD es')) ?_ ?_ fun _ _ e => e
  · refine wpAny_IfExp (wpAny_isTrue_Compare1 ?_ (by walk_at "ev"))
    refine e_loc S₂' (by walk_at "lk") ?_ (by walk_at "ev") (by walk_at "ev") (by walk_at "ev")
    refine List_ (args_nil ?_)
    refine r_list S₂' (by decide) (fun h₃ b₃ S₃ => ?_)
    refine r_ne (W₁ := Z₂) (W₂ := ((b₃, lO [] 0) :: MM L ml vs n ol o1 o2 ob') ++ Z₂) (e := .list []) S₃ R (hD.mono hs₂) (subZ _ _) (.list (n := 0) (List.mem_append.mpr (.inl (.head _))) .nil) (Sub.refl _) hok (by simp [kqdOk]) fun b hb => ?_
    refine b_truthy ?_
    cases es' with
    | nil =>
      have : b = false := by rw [← Bool.not_eq_true]; intro q; exact hb.mp q rfl
      subst this
      rw [if_neg (by decide)]
      exact e_none ⟨_, _, rfl, S₃.tail, .none⟩
    | cons e es =>
      have : b = true := hb.mpr (by simp)
      subst this
      rw [if_pos rfl]
      refine Subscript_ ?_
      refine e_loc S₃ (by walk_at "lk") ?_ (by walk_at "ev") (by walk_at "ev") (by walk_at "ev")
      refine e_int fun t₄ => ?_
      refine x_L 0 rfl S₃ (hD.mono hs₂) rfl (by simp at hel ⊢; (first | lia | omega)) fun z hz => ?_
      exact ⟨_, _, rfl, S₃.tail, hz⟩
  · rintro v s' ⟨h₃, t₃, rfl, S₃, hv⟩
    have hsel : kqdOk 8 (selD es') = true := by
      cases es' with
      | nil => rfl
      | cons e es =>
        have h7 := told_ok H T e (.head _)
        obtain ⟨m, hm, hf, rfl⟩ := T.mem (.head _)
        have h1 := H.msok m hm
        have h2 : ∀ y ∈ m.1, PyData.strOk y = true := h1.sig
        show kqdOk 8 (dTold (entOf lns m)) = true
        simp only [kqdOk, List.all_cons, List.all_nil, Bool.and_true, Bool.and_eq_true, List.all_eq_true, List.mem_map]
        refine ⟨trivial, ?_, h1.2.2⟩
        rintro d ⟨y, hy, rfl⟩
        exact h2 y hy
    refine r_ne (W₁ := Z₂) (W₂ := Z₂) S₃ R hy (subZ _ _) hv (subZ _ _) hsel hsel fun b hb => ?_
    have : b = false := by rw [← Bool.not_eq_true]; intro q; exact hb.mp q rfl
    subst this
    refine b_truthy ?_
    rw [if_neg (by decide)]
    exact wpAny_execs_nil (k _ _ Z₂ ob' hs₂ hT' S₃)
end
end Mine
end
section
open PySem PySem.W PySem.Calls PyProof.Rows
set_option maxHeartbeats 4000000
namespace Mine
section
variable {w : World} {A : Around} {E : Value → Shared → Prop} {s : Shared} {h₀ h : Heap} {t : Nat} {L : Addr} {l : Loc} {M M₁ M₂ Z : Led} {env : Env}
  {tp : Program} {loose : List Str} {mean : ExcName → Option Value} {mg mb : Str → Option Value} {prog : Program} {a : Addr} {n : Nat} {xs vs : List Value} {ds es : List Dat} {d e : Dat} {v y r : Value} {Q : Value → Shared → Prop}
variable {fa : Addr} {cd : Value} {Q : Flow → Shared → Prop}
variable {x x2 ml ml2 nd : Addr} {od ol o1 o2 ob : Obj} {lv : Value} {lns : List Line} {ms : List (Sig × Str)} {c : Nat} {u : Tok} {es : List Ent} {D : Addr} {vs2 : List Value} {n2 : Nat}

theorem seg19 (B : Base w tp loose mean mg mb h₀) (S : St h₀ L h (lB D x nd c u) (MM L ml vs n ol o1 o2 ob) Z) (R : Rm A 20) (H : LawH w Z L x ml nd vs od ol lv lns ms c) (T : TopE lns ms es) (hD : DatIn Z (.ref D) (.list (es.map dTold))) (hT : LamTab lamPos lamQ Z ob)
    (k : ∀ h' t' Z' ob', Sub Z Z' → LamTab lamPos lamQ Z' ob' → St h₀ L h' (lB D x nd c u) (MM L ml vs n ol o1 o2 ob') Z' → Q .next (up s h' t')) :
    wpAny (model PG w) A (exec (stAt w 19) (lawEnv w L fa cd)) Q E (up s h t) := by
  have hel : es.length < 8 := Nat.lt_of_le_of_lt T.len H.msl
  have hDz : (es.map dTold).length ≤ 1000 := by simp; (first | lia | omega)
  have hnd := T.nodup H.msnd
  refine s_for ?_ (by intro _; rfl)
  refine x_ty B S (g_range w) b_range ?_ (by walk_at "ev") (by walk_at "ev") (by walk_at "ev") (by walk_at "ev")
  refine arg1 ?_
  refine x_bi B S (g_len w) b_len ?_ (by walk_at "ev") (by walk_at "ev") (by walk_at "ev") (by walk_at "ev")
  refine arg1 ?_
  walk_at "nm"
  refine r_lenL S hD hDz fun tq uq => ?_
  refine r_range S fun h₃ t₃ ra t₄ u₄ v₄ Z₁ S₃ hs₁ hr₁ => ?_
  refine for_range (m := (es.map dTold).length) S₃ R.hh hr₁ (by (first | lia | omega))
    (fun i l' M' Z' => ∃ ob, l' = lB D x nd c u ∧ M' = MM L ml vs n ol o1 o2 ob ∧ LamTab lamPos lamQ Z' ob) ⟨ob, rfl, rfl, hT.mono hs₁⟩ ?_ ?_
  · intro i u₅ l' M' Z' h' t' I o E' hi hs hJ₀ S₄ K hK
    obtain ⟨ob, rfl, rfl, hT⟩ := hJ₀
    have hi' : i < es.length := by simpa using hi
    have hsub := hs₁.trans hs
    obtain ⟨m, hm, hf, em⟩ := T.mem (List.getElem_mem hi')
    have hsig : SigOk es[i].2.1 := by rw [em]; exact (H.msok m hm).sig
    refine as_name S₄ (fun h₅ t₅ S₅ => ?_) (by walk_at "ev") (by walk_at "ev") (by walk_at "ev")
    refine wpAny_execs_cons (wpAny_If (wpAny_isTrue_Compare1 ?_ (by walk_at "ev")))
    refine MethodCall_ ?_ (by rfl)
    walk_at "nm"
    refine m_inst B S₅ (H.T.mono hsub).inst (f := 121) (by kernel_rfl!) (by kernel_rfl!) (by kernel_rfl!) (by decide +kernel) ?_
    refine cw_m (fn_nxt w) B (arg3 (e_str fun t₆ => ?_))
    refine e_cell S₅ (c := L + 1 + 1) (o := ol) (by walk_at "ev") (by simp) H.hol ?_ (by walk_at "ev") (by walk_at "ev")
    refine Subscript_ (Subscript_ ?_)
    walk_at "nm"
    walk_at "nm"
    refine x_L i rfl S₅ (hD.mono hsub) (d := dTold es[i]) (by simp [hi']) hDz fun z hz => ?_
    refine e_int fun t₇ => ?_
    refine x_T 1 rfl S₅ hz rfl (by simp) fun z1 hz1 => ?_
    refine ⟨S₅.stays', ?_⟩
    refine c_nxt (n := n) (sg := es[i].2.1) (M₁ := [(I, o), (ml, lO vs n), (L + 1 + 1, ol), (L + 1 + 1 + 1, o1), (L + 1 + 1 + 1 + 1, o2)]) (M₂ := []) B S₅ R.less (H.T.mono hsub) (by simp) (H.hms.mono hsub) (H.hlv.mono hsub) hz1 H.len H.msnd (by have := H.msl; (first | lia | omega)) H.ll H.lz hT hsig (fun m hm => (H.msok m hm).sig) fun h₈ t₈ Z₈ ob' y es' hs₈ S₈ hT' hp' hso' hy => ?_
    have same : es' = es := T.same ⟨hp', hso'⟩ (List.Perm.refl _)
    subst same
    rw [next_of hnd hi'] at hy
    have S₈' : St h₀ L h₈ _ ((I, o) :: MM L ml vs n ol o1 o2 ob') Z₈ := S₈
    refine Subscript_ ?_
    refine e_loc S₈' (by walk_at "lk") ?_ (by walk_at "ev") (by walk_at "ev") (by walk_at "ev")
    refine wpAny_Slice ?_
    show wpAny _ _ (eval _ _) _ _ _
    refine wpAny_BinOp ?_
    refine e_loc S₈' (by walk_at "lk") ?_ (by walk_at "ev") (by walk_at "ev") (by walk_at "ev")
    refine e_int fun t₉ => i_add fun u₁₀ t₁₀ => ?_
    show wpAny _ _ (pure Value.none) _ _ _
    refine wpAny_pure ?_
    show wpAny _ _ (pure Value.none) _ _ _
    refine wpAny_pure ?_
    obtain ⟨ax, vs', n', rfl2, hm', hd'⟩ := d_list (hD.mono (hsub.trans hs₈))
    cases rfl2
    have hvl : vs'.length = es'.length := by have := hd'.length; simpa using this
    have ei : ((i : Int) + 1) = ((i + 1 : Nat) : Int) := by (first | lia | omega)
    rw [ei]
    refine x_slice (lo := some ((i + 1 : Nat) : Int)) (hi := none) (ws := vs'.drop (i + 1)) S₈' (List.mem_append.mpr (.inr hm')) (.int _ _) .none (pick_from _ _ (by (first | lia | omega))) (by (first | lia | omega)) fun h₁₁ D' S₁₁ => ?_
    have hdr : DatAll Z₈ (vs'.drop (i + 1)) ((es'.drop (i + 1)).map dTold) := by rw [List.map_drop]; exact d_drop hd' (i + 1)
    have hok := tolds_ok (es' := es'.drop (i + 1)) fun e he => told_ok H T e (List.mem_of_mem_drop he)
    refine r_ne (W₁ := Z₈) (W₂ := ((D', lO (vs'.drop (i + 1)) 0) :: (I, o) :: MM L ml vs n ol o1 o2 ob') ++ Z₈) S₁₁ R hy (subZ _ _) (.list (n := 0) (List.mem_append.mpr (.inl (.head _))) (hdr.mono (subZ _ _))) (Sub.refl _) hok hok fun b hb => ?_
    have : b = false := by rw [← Bool.not_eq_true]; intro q; exact hb.mp q rfl
    subst this
    refine b_truthy ?_
    rw [if_neg (by decide)]
    exact wpAny_execs_nil (wpAny_execs_nil (hK _ _ <| TurnE.next hs₈ (S₁₁.tail.lc (by walk_at "lc")) ⟨ob', rfl, rfl, hT'⟩))
  · rintro l' M' Z' h' t' hs ⟨ob, rfl, rfl, hT⟩ S₄
    exact k _ _ Z' ob (hs₁.trans hs) hT S₄

theorem q_ok (c : Nat) : SigOk (List.replicate c "Q") := fun x hx => by
  rw [List.eq_of_mem_replicate hx]; decide +kernel
theorem q_menu : ("Q" : Str) ∉ menu := by decide +kernel

theorem seg20 (B : Base w tp loose mean mg mb h₀) (S : St h₀ L h (lB D x nd c u) (MM L ml vs n ol o1 o2 ob) Z) (R : Rm A 20) (H : LawH w Z L x ml nd vs od ol lv lns ms c) (T : TopE lns ms es) (hD : DatIn Z (.ref D) (.list (es.map dTold))) (hT : LamTab lamPos lamQ Z ob)
    (k : ∀ h' t' Z' ob', LamTab lamPos lamQ Z' ob' → St h₀ L h' (lB D x nd c u) (MM L ml vs n ol o1 o2 ob') Z' → Q (.ret (.bool true)) (up s h' t')) :
    wpAny (model PG w) A (exec (stAt w 20) (lawEnv w L fa cd)) Q E (up s h t) := by
  have hc1 := H.hc1
  have hc3 := H.hc3
  refine wpAny_Return_some (wpAny_Compare1 ?_ (by walk_at "ev"))
  refine MethodCall_ ?_ (by rfl)
  walk_at "nm"
  refine m_inst B S H.T.inst (f := 121) (by kernel_rfl!) (by kernel_rfl!) (by kernel_rfl!) (by decide +kernel) ?_
  refine cw_m (fn_nxt w) B (arg3 (e_str fun t₁ => ?_))
  refine e_cell S (c := L + 1 + 1) (o := ol) (by walk_at "ev") (by simp) H.hol ?_ (by walk_at "ev") (by walk_at "ev")
  refine wpAny_BinOp (Tuple_ (arg1 (e_str fun t₂ => ?_)))
  refine wpAny_newObj_type ?_ (by show 1 ≤ sizeLine; rw [sizeLine_eq]; decide)
  have S₂ := S.pushZ (tO [.str "Q" t₁] 0)
  show wpAny _ _ _ _ _ (up s (h.push (tO [.str "Q" t₁] 0)) t₂)
  generalize h.objs.size = tq at S₂
  generalize h.push (tO [.str "Q" t₁] 0) = h2 at S₂
  refine e_loc S₂ (by walk_at "lk") ?_ (by walk_at "ev") (by walk_at "ev") (by walk_at "ev")
  refine r_mulT (c := c) (d := .str "Q") (by (first | lia | omega)) S₂ (.head _) (.str _ _) fun h₃ b Z₃ hs₃ S₃ hb => ?_
  have hb' : DatIn Z₃ (.ref b) (dSig (List.replicate c "Q")) := by
    have e : (List.replicate c ("Q" : Str)).map Dat.str = List.replicate c (Dat.str "Q") := List.map_replicate
    show DatIn Z₃ (.ref b) (.tuple ((List.replicate c ("Q" : Str)).map Dat.str))
    rw [e]; exact hb
  have hsub := (Sub.cons (tq, tO [.str "Q" t₁] 0) Z).trans hs₃
  refine ⟨S₃.stays', ?_⟩
  refine c_nxt (n := n) (sg := List.replicate c "Q") (M₁ := [(ml, lO vs n), (L + 1 + 1, ol), (L + 1 + 1 + 1, o1), (L + 1 + 1 + 1 + 1, o2)]) (M₂ := []) B S₃ R.less (H.T.mono hsub) (by simp) (H.hms.mono hsub) (H.hlv.mono hsub) hb' H.len H.msnd (by have := H.msl; (first | lia | omega)) H.ll H.lz (hT.mono hsub) (q_ok c) (fun m hm => (H.msok m hm).sig) fun h₈ t₈ Z₈ ob' y es' hs₈ S₈ hT' hp' hso' hy => ?_
  have same : es' = es := T.same ⟨hp', hso'⟩ (List.Perm.refl _)
  subst same
  rw [next_none (fun e he q => by
    obtain ⟨m, hm, hf, rfl⟩ := T.mem he
    have h1 := H.msok m hm
    have h2 : m.1 = List.replicate c ("Q" : Str) := q
    have : ("Q" : Str) ∈ m.1 := by rw [h2]; exact List.mem_replicate.mpr ⟨by (first | lia | omega), rfl⟩
    exact q_menu (h1.2.1 _ this))] at hy
  have S₈' : St h₀ L h₈ (lB D x nd c u) (MM L ml vs n ol o1 o2 ob') Z₈ := S₈
  refine e_loc S₈' (by walk_at "lk") ?_ (by walk_at "ev") (by walk_at "ev") (by walk_at "ev")
  have hok := tolds_ok (told_ok H T)
  refine r_eq (W₁ := Z₈) (W₂ := Z₈) S₈' R hy (subZ _ _) (hD.mono (hsub.trans hs₈)) (subZ _ _) hok hok fun b hb => ?_
  have : b = true := hb.mpr rfl
  subst this
  exact k _ _ Z₈ ob' hT' S₈'

/-- the whole body -/
theorem c_law {sa : Addr} {ns : List Int} {oc ol o1 o2 : Obj} {v0 v1 v2 v3 : Option Value} (B : Base w tp loose mean mg mb h₀) (R : Rm A 20)
    (S : St h₀ L h [("script", .ref sa)] [(L + 1, oc), (L + 1 + 1, ol), (L + 1 + 1 + 1, o1), (L + 1 + 1 + 1 + 1, o2), (104, tabObj #[])] Z) (hoc : oc.data = .cell v0) (hol : ol.data = .cell v1) (ho1 : o1.data = .cell v2) (ho2 : o2.data = .cell v3)
    (hsa : h₀.IsList sa vs.toArray) (hi : IntsAre vs ns) (hz : vs.length ≤ 63)
    (k : ∀ h' t' l' ml vs n ol o1 o2 ps Z', St h₀ L h' l' (MM L ml vs n ol o1 o2 (tabObj ps)) Z' → Q (.ret (.bool true)) (up s h' t')) :
    wpAny (model PG w) A (execs (bdAt w 183) (lawEnv w L fa cd)) Q E (up s h t) := by
  rw [law_body]
  refine wpAny_execs_cons (seg0 B S R hoc hsa hi hz fun h₁ t₁ Z₁ ca xs₁ ns₁ n₁ oc₁ hs₁ hi₁ hz₁ hoc₁ S₁ => ?_)
  refine wpAny_execs_cons (seg1 B S₁ R hoc₁ hi₁ hz₁ fun h₂ t₂ xs₂ ns₂ n₂ c u hc1 hc3 hi₂ hz₂ S₂ => ?_)
  refine wpAny_execs_cons (seg2 B S₂ R hoc₁ hol hi₂ hz₂ hc3 fun h₃ t₃ Z₃ xs₃ ns₃ n₃ ol₃ lv lns hs₃ hi₃ hz₃ hll hok hlv hol₃ S₃ => ?_)
  refine wpAny_execs_cons (seg3 S₃ fun h₄ t₄ ea S₄ => ?_)
  refine wpAny_execs_cons (seg4 B S₄ R hoc₁ hi₃ hz₃ hc3 fun h₅ t₅ Z₅ es₅ n₅ xs₅ n₅' ent hs₅ hes hel hmok S₅ => ?_)
  have S₅' := S₅.freeze.tail.tail
  have hent : DatIn ((ea, lO es₅ n₅) :: Z₅) (.ref ea) (.list (ent.map dMeth)) := .list (.head _) (hes.mono (Sub.cons _ _))
  refine wpAny_execs_cons (seg5 B S₅' fun h₆ t₆ nd od lo N S₆ => ?_)
  refine wpAny_execs_cons (seg6 B S₆ R fun h₇ t₇ Z₇ x gd og hs₇ hd I S₇ => ?_)
  refine wpAny_execs_cons (seg7 B S₇ R hd I fun h₈ t₈ Z₈ ml n₈ hs₈ T S₈ => ?_)
  refine wpAny_execs_cons (seg8 B S₈ R T (N.mono (hs₇.trans hs₈)) (hent.mono (hs₇.trans hs₈)) hel hmok hc3 fun h₉ t₉ Z₉ vs₉ n₉ od₉ hs₉ hvs₉ N₉ S₉ => ?_)
  have S₉' := (S₉.perm (List.Perm.swap _ _ _)).freeze
  have hsA : Sub Z₃ ((nd, od₉) :: Z₉) := hs₅.trans ((Sub.cons _ _).trans ((hs₇.trans hs₈).trans (hs₉.trans (Sub.cons _ _))))
  have hmsl := msOf_len ent
  have H : LawH w ((nd, od₉) :: Z₉) L x ml nd vs₉ od₉ ol₃ lv lns (msOf ent) c :=
    ⟨T.mono (hs₉.trans (Sub.cons _ _)), hvs₉.mono (Sub.cons _ _), N₉.mono (Sub.cons _ _), .head _, lo, hol₃, hlv.mono hsA, hll, hok, msOf_all hmok, msOf_nodup ent, by (first | lia | omega), hc1, hc3⟩
  refine wpAny_execs_cons (seg9 B S₉' R H (.inl rfl) fun h₁₀ t₁₀ Z₁₀ ob₁₀ D es hs₁₀ hT₁₀ TE hD S₁₀ => ?_)
  have H10 := H.mono hs₁₀
  refine wpAny_execs_cons (seg10 B S₁₀ R H10 fun h₁₁ t₁₁ Z₁₁ fl xs₁₁ nn hs₁₁ hfl hxs S₁₁ => ?_)
  have H11 := H10.mono hs₁₁
  refine wpAny_execs_cons (seg11 B S₁₁ R H11 TE (hD.mono hs₁₁) hfl hxs fun h₁₂ t₁₂ Z₁₂ hs₁₂ S₁₂ => ?_)
  have H12 := H11.mono hs₁₂
  have hD12 := hD.mono (hs₁₁.trans hs₁₂)
  refine wpAny_execs_cons (seg12 B S₁₂ R H12 TE hD12 fun h₁₃ t₁₃ Z₁₃ hs₁₃ S₁₃ => ?_)
  have H13 := H12.mono hs₁₃
  refine wpAny_execs_cons (seg13 B S₁₃ R H13 TE (hD12.mono hs₁₃) ho1 ho2 fun h₁₄ t₁₄ Z₁₄ o1' o2' hs₁₄ S₁₄ => ?_)
  have H14 := H13.mono hs₁₄
  have hD14 := hD12.mono (hs₁₃.trans hs₁₄)
  have hT14 := hT₁₀.mono (hs₁₁.trans (hs₁₂.trans (hs₁₃.trans hs₁₄)))
  refine wpAny_execs_cons (seg14 B S₁₄ R fun h₁₅ t₁₅ Z₁₅ x2 gd2 og2 hs₁₅ hd2 I2 S₁₅ => ?_)
  refine wpAny_execs_cons (seg15 B S₁₅ R hd2 I2 fun h₁₆ t₁₆ Z₁₆ ml2 n₁₆ hs₁₆ T2 S₁₆ => ?_)
  have H16 := H14.mono (hs₁₅.trans hs₁₆)
  refine wpAny_execs_cons (seg16 B S₁₆ R H16 T2 fun h₁₇ t₁₇ Z₁₇ vs2 n2 ms' hs₁₇ hperm hmem hvs2 S₁₇ => ?_)
  have H17 := H16.mono hs₁₇
  have hD17 := hD14.mono ((hs₁₅.trans hs₁₆).trans hs₁₇)
  have hT17 := hT14.mono ((hs₁₅.trans hs₁₆).trans hs₁₇)
  refine wpAny_execs_cons (seg17 B S₁₇ R H17 (T2.mono hs₁₇) TE hD17 hT17 hperm hmem hvs2 fun h₁₈ t₁₈ Z₁₈ ob₁₈ hs₁₈ hT₁₈ S₁₈ => ?_)
  have H18 := H17.mono hs₁₈
  refine wpAny_execs_cons (seg18 B S₁₈ R H18 TE (hD17.mono hs₁₈) hT₁₈ fun h₁₉ t₁₉ Z₁₉ ob₁₉ hs₁₉ hT₁₉ S₁₉ => ?_)
  have H19 := H18.mono hs₁₉
  refine wpAny_execs_cons (seg19 B S₁₉ R H19 TE (hD17.mono (hs₁₈.trans hs₁₉)) hT₁₉ fun h₂₀ t₂₀ Z₂₀ ob₂₀ hs₂₀ hT₂₀ S₂₀ => ?_)
  have H20 := H19.mono hs₂₀
  refine wpAny_execs_cons (seg20 B S₂₀ R H20 TE (hD17.mono ((hs₁₈.trans hs₁₉).trans hs₂₀)) hT₂₀ fun h₂₁ t₂₁ Z₂₁ ob₂₁ hT₂₁ S₂₁ => ?_)
  rcases hT₂₁ with e | ⟨c', oc', vs', tk', e, _⟩
  · subst e; exact k _ _ _ _ _ _ _ _ _ _ _ S₂₁
  · subst e; exact k _ _ _ _ _ _ _ _ _ _ _ S₂₁
end
end Mine
end
section
open PySem PySem.W PySem.Calls PyProof.Rows
namespace Mine
theorem hm_script {m : Str → Option Value} {v : Value} (h : m "script" = some v) : ∀ x u, ([("script", v)] : Loc).lookup x = some u → m x = some u := by
  intro x u e
  rw [List.lookup_cons] at e
  cases q : (x == ("script" : Str)) with
  | true => rw [q] at e; cases e; rw [beq_iff_eq.mp q]; exact h
  | false => rw [q] at e; cases e

set_option maxHeartbeats 8000000 in
theorem fin : PySem.Challenge.rw_ov0040_01.Holds := Mine.hd (by
  k_go0
  rename_i w s₀ s₁ mg mb G Y fa o pm cd doc ho hcd hg X V T B TE TW ns hs hlay0 hL1 hr1 hl2 w8 w7 sa vs w4 hL ra w1 r0 hI hr hlen0 hcond hD h₁ tk₁ o2 o1 ol oc d2 d1 dl dc X0 X' T' K' F' N' l0
  clear X0 hD hcd ra w1 r0 hr hs hL1 hr1 hl2 X V T B TE TW Y G
  have hS : St (ghostOf s₁.heap [(106, 104)]) s₁.heap.objs.size h₁ [("script", .ref sa)] [(s₁.heap.objs.size + 1, oc), (s₁.heap.objs.size + 1 + 1, ol), (s₁.heap.objs.size + 1 + 1 + 1, o1), (s₁.heap.objs.size + 1 + 1 + 1 + 1, o2), (104, tabObj #[])] [] := by
    refine ⟨⟨_, F', hm_script (by rfl)⟩, fun p hp => N' p ?_, ?_, fun p hp q hq => by cases hq⟩
    · simp only [List.append_nil, List.mem_cons, List.not_mem_nil, or_false] at hp ⊢
      rcases hp with h | h | h | h | h
      · exact .inr (.inr (.inr (.inl h)))
      · exact .inr (.inr (.inl h))
      · exact .inr (.inl h)
      · exact .inl h
      · exact .inr (.inr (.inr (.inr h)))
    · generalize s₁.heap.objs.size = q at l0
      simp only [List.pairwise_cons, List.mem_cons, List.not_mem_nil, or_false, forall_eq_or_imp, forall_eq, false_implies, implies_true, and_true, List.Pairwise.nil]
      have l0' : (104 : Nat) < q := l0
      refine ⟨⟨?_, ?_, ?_, ?_⟩, ⟨?_, ?_, ?_⟩, ⟨?_, ?_⟩, ?_⟩ <;> (show ¬ ((_ : Nat) = (_ : Nat)); lia)
  have hz : vs.length ≤ 63 := by have := hI.length; lia
  have hR : Rm (callerA.deeper (lawEnv w s₁.heap.objs.size fa cd)) 20 := ⟨rfl, of_decide_eq_true (by kernel_rfl!), of_decide_eq_true (by kernel_rfl!)⟩
  refine c_law (s := s₁) (t := tk₁) (Base.mk X' T' codeHd) hR hS dc dl d1 d2 lifted hI hz (fa := fa) (cd := cd) fun h' t' l' ml vs' n ol' o1' o2' ps Z' Sf => ?_
  obtain ⟨m, Fm, hm⟩ := Sf.fr
  refine ⟨goodW_bool Fm hg (raisesW_false ?_) ?_, ⟨ps, Sf.getM (by simp)⟩, trivial⟩
  · wrow_none_raised
  · wrow_post)
end Mine
end
theorem PySem.Challenge.cw_ov0040_01_holds : PySem.Challenge.rw_ov0040_01.Holds := by
  exact Mine.fin
