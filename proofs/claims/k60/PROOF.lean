import PyProof.Rows.All
import Wide.All
import OpenK.AllK
import Wide.FinOn
import HandS.ForMost
import HandS.ForExc
import HandS.Defaults
import HandS.Flow
import HandS.Zip
import HandS.Rev
import HandS.TupAny
import HandS.TupMul
import HandS.TupLe
import HandS.Deep
import HandS.IsInst
import HandS.WideBits
import HandS.HeadHook4
import HandS.Walk
import HandS.Ends
import HandS.EndBits
import HandS.Head0
import HandS.Head1
import HandS.Head2
import HandS.HeadEnd
import KE.GoesEnum
import PySem.Challenge.RW_spaceturns_k60_whole_chains_of_turns
set_option Elab.async false
set_option linter.all false
set_option maxRecDepth 100000
set_option maxHeartbeats 4000000
/-! HDa: data D, what represents it in a heap, frozen heaps and owned objects, readings by functions on data. -/
namespace HD
open PySem PySem.Spec PyProof.Rows L2
abbrev Sg := L2.St

/-! ### data -/
inductive D where
  | non | bl (b : Bool) | int (i : Int) | str (x : Str)
  | tup (l : List D) | lst (l : List D) | scr (l : List D)
  | dic (l : List (D × D))
  | ins (C : Str) (fs : List (Str × D))
  | exn (C : Str) (fs : List (Str × D))
instance : Inhabited D := ⟨.non⟩
/-- a value: shared, or a new object that nobody else has -/
inductive Vn | v (d : D) | n (d : D)
inductive Rs | v (d : D) | n (d : D) | x (e : D)
def Vn.r : Vn → Rs | .v d => .v d | .n d => .n d
def Vn.d : Vn → D | .v d => d | .n d => d
inductive Slot | un | sh (d : D) | own (d : D)
def Slot.val : Slot → Option D | .un => none | .sh d => some d | .own d => some d
abbrev En := List Slot
abbrev Ev := En → Option Rs
def getv (env : En) (i : Nat) : Option D := (env[i]?).bind Slot.val

/-! ### flat data: no list, no dict within -/
mutual
def D.flat : D → Bool
  | .non | .bl _ | .int _ | .str _ => true
  | .tup l => D.flats l
  | _ => false
def D.flats : List D → Bool
  | [] => true
  | d :: r => d.flat && D.flats r
end
/-- a new object whose items are flat -/
def D.flatN : D → Bool
  | .lst l => D.flats l
  | .dic [] => true
  | .dic l => l.all fun p => p.1.flat && p.2.flat
  | _ => false

/-! ### what represents data -/
mutual
inductive Rep (K : PySem.W.Frag) (H : Hp) : V → D → Prop
  | non : Rep K H .non .non
  | bl (b : Bool) : Rep K H (.bl b) (.bl b)
  | int (i : Int) : Rep K H (.int i) (.int i)
  | str (x : Str) : Rep K H (.str x) (.str x)
  | tup {a : Addr} {xs : List V} {ds : List D} : SqT K H a xs → Reps K H xs ds → Rep K H (.ref a) (.tup ds)
  | lst {a : Addr} {xs : List V} {ds : List D} : H a = some (.lst xs) → Reps K H xs ds → Rep K H (.ref a) (.lst ds)
  | scr {a : Addr} {xs : List V} {ds : List D} : SqL K H a xs → Reps K H xs ds → Rep K H (.ref a) (.scr ds)
  | ins {a dx : Addr} {C : Str} {fs : List (Str × V)} {gs : List (Str × D)} : H a = some (.ins (He.ga K C) dx fs) → RepF K H fs gs → Rep K H (.ref a) (.ins C gs)
inductive Reps (K : PySem.W.Frag) (H : Hp) : List V → List D → Prop
  | nil : Reps K H [] []
  | cons {v : V} {vs : List V} {d : D} {ds : List D} : Rep K H v d → Reps K H vs ds → Reps K H (v :: vs) (d :: ds)
inductive RepF (K : PySem.W.Frag) (H : Hp) : List (Str × V) → List (Str × D) → Prop
  | nil : RepF K H [] []
  | cons {f : Str} {v : V} {fs : List (Str × V)} {d : D} {gs : List (Str × D)} : Rep K H v d → RepF K H fs gs → RepF K H ((f, v) :: fs) ((f, d) :: gs)
end
theorem same_sqt {K : PySem.W.Frag} {H H' : Hp} {a : Addr} {xs : List V} (e : Same H H') (h : SqT K H a xs) : SqT K H' a xs := by
  rcases h with (h | ⟨o, h⟩) | h
  · exact .inl (.inl (e _ _ h))
  · exact .inl (.inr ⟨o, e _ _ h⟩)
  · exact .inr h
section
variable {K : PySem.W.Frag} {H H' : Hp}
mutual
theorem Rep.mono (e : Same H H') : ∀ {v : V} {d : D}, Rep K H v d → Rep K H' v d
  | _, _, .non => .non
  | _, _, .bl b => .bl b
  | _, _, .int i => .int i
  | _, _, .str x => .str x
  | _, _, .tup h r => .tup (same_sqt e h) (Reps.mono e r)
  | _, _, .lst h r => .lst (e _ _ h) (Reps.mono e r)
  | _, _, .scr h r => .scr (e.seq h) (Reps.mono e r)
  | _, _, .ins h r => .ins (e _ _ h) (RepF.mono e r)
theorem Reps.mono (e : Same H H') : ∀ {v : List V} {d : List D}, Reps K H v d → Reps K H' v d
  | _, _, .nil => .nil
  | _, _, .cons h r => .cons (Rep.mono e h) (Reps.mono e r)
theorem RepF.mono (e : Same H H') : ∀ {v : List (Str × V)} {d : List (Str × D)}, RepF K H v d → RepF K H' v d
  | _, _, .nil => .nil
  | _, _, .cons h r => .cons (Rep.mono e h) (RepF.mono e r)
end
theorem Reps.length : ∀ {vs : List V} {ds : List D}, Reps K H vs ds → vs.length = ds.length
  | _, _, .nil => rfl
  | _, _, .cons _ r => congrArg (· + 1) r.length
theorem Reps.append : ∀ {vs ws : List V} {ds es : List D}, Reps K H vs ds → Reps K H ws es → Reps K H (vs ++ ws) (ds ++ es)
  | _, _, _, _, .nil, s => s
  | _, _, _, _, .cons h r, s => .cons h (Reps.append r s)
theorem Reps.get : ∀ {vs : List V} {ds : List D} {i : Nat} {d : D}, Reps K H vs ds → ds[i]? = some d → ∃ v, vs[i]? = some v ∧ Rep K H v d
  | _, _, _, _, .nil, e => by simp at e
  | _, _, 0, _, .cons h _, e => by simp at e; subst e; exact ⟨_, rfl, h⟩
  | _, _, i + 1, d, .cons _ r, e => by
    obtain ⟨v, a, b⟩ := Reps.get (i := i) (d := d) r (by simpa using e)
    exact ⟨v, by simpa using a, b⟩
theorem Reps.getV : ∀ {vs : List V} {ds : List D} {i : Nat} {v : V}, Reps K H vs ds → vs[i]? = some v → ∃ d, ds[i]? = some d ∧ Rep K H v d
  | _, _, _, _, .nil, e => by simp at e
  | _, _, 0, _, .cons h _, e => by simp at e; subst e; exact ⟨_, rfl, h⟩
  | _, _, i + 1, d, .cons _ r, e => by
    obtain ⟨v, a, b⟩ := Reps.getV (i := i) (v := d) r (by simpa using e)
    exact ⟨v, by simpa using a, b⟩
theorem Reps.drop : ∀ {vs : List V} {ds : List D} (n : Nat), Reps K H vs ds → Reps K H (vs.drop n) (ds.drop n)
  | _, _, 0, r => r
  | _, _, _ + 1, .nil => .nil
  | _, _, n + 1, .cons _ r => Reps.drop n r
theorem Reps.take : ∀ {vs : List V} {ds : List D} (n : Nat), Reps K H vs ds → Reps K H (vs.take n) (ds.take n)
  | _, _, 0, _ => .nil
  | _, _, _ + 1, .nil => .nil
  | _, _, n + 1, .cons h r => .cons h (Reps.take n r)
theorem Reps.set {x : V} {d : D} (h : Rep K H x d) : ∀ {vs : List V} {ds : List D} (n : Nat), Reps K H vs ds → Reps K H (vs.set n x) (ds.set n d)
  | _, _, _, .nil => .nil
  | _, _, 0, .cons _ r => .cons h r
  | _, _, n + 1, .cons q r => .cons q (Reps.set h n r)
theorem Reps.rev : ∀ {vs : List V} {ds : List D}, Reps K H vs ds → Reps K H vs.reverse ds.reverse
  | _, _, .nil => .nil
  | _, _, .cons h r => by
    rw [List.reverse_cons, List.reverse_cons]
    exact (Reps.rev r).append (.cons h .nil)
theorem Reps.flatten : ∀ (n : Nat) {vs : List V} {ds : List D}, Reps K H vs ds → Reps K H (List.replicate n vs).flatten (List.replicate n ds).flatten
  | 0, _, _, _ => .nil
  | n + 1, _, _, r => by
    rw [List.replicate_succ, List.replicate_succ, List.flatten_cons, List.flatten_cons]
    exact r.append (Reps.flatten n r)
end

/-! ### extension -/
/-- (Hs, H) grows to (Hs', H'): what was tracked stays; the frozen part grows by new things alone -/
structure Ext (Hs H Hs' H' : Hp) : Prop where
  s : Same Hs Hs'
  h : Same H H'
  sub : Same Hs' H'
  new : ∀ a, Hs a = none → H a ≠ none → Hs' a = none
section
variable {Hs H Hs' H' Hs'' H'' : Hp}
theorem Ext.refl (s : Same Hs H) : Ext Hs H Hs H := ⟨Same.refl _, Same.refl _, s, fun _ h _ => h⟩
theorem Ext.trans (a : Ext Hs H Hs' H') (b : Ext Hs' H' Hs'' H'') : Ext Hs H Hs'' H'' :=
  ⟨a.s.trans b.s, a.h.trans b.h, b.sub, fun c h1 h2 => b.new c (a.new c h1 h2) fun z => by
    cases q : H c with
    | none => exact h2 q
    | some o => rw [a.h c o q] at z; cases z⟩
theorem same_upd {H : Hp} {p : Addr} {o : HO} (h : H p = none) : Same H (upd H p o) := fun b u e => by
  rw [upd_ne (ne_of_none e h)]; exact e
/-- a new thing, frozen -/
theorem Ext.laid {p : Addr} {o : HO} (a : Ext Hs H Hs' H') (n : H' p = none) : Ext Hs H (upd Hs' p o) (upd H' p o) := by
  have ns : Hs' p = none := a.sub.free n
  refine a.trans ⟨same_upd ns, same_upd n, fun b u e => ?_, fun c h1 h2 => ?_⟩
  · by_cases hb : b = p
    · subst hb; rw [upd_same] at e ⊢; exact e
    · rw [upd_ne hb] at e ⊢; exact a.sub b u e
  · rw [upd_ne (fun z => h2 (by rw [z]; exact n))]; exact h1
/-- a new thing, not frozen -/
theorem Ext.laidN {p : Addr} {o : HO} (a : Ext Hs H Hs' H') (n : H' p = none) : Ext Hs H Hs' (upd H' p o) :=
  a.trans ⟨Same.refl _, same_upd n, a.sub.trans (same_upd n), fun _ h _ => h⟩
/-- a thing that was laid since, and not frozen, is frozen -/
theorem Ext.freeze {p : Addr} {o : HO} (a : Ext Hs H Hs' H') (n : H p = none) (ns : Hs' p = none) (e : H' p = some o) : Ext Hs H (upd Hs' p o) H' :=
  ⟨a.s.trans (same_upd ns), a.h, fun b u q => by
    by_cases hb : b = p
    · subst hb; rw [upd_same] at q; rw [← q]; exact e
    · rw [upd_ne hb] at q; exact a.sub b u q, fun c h1 h2 => by
    rw [upd_ne (fun z => h2 (by rw [z]; exact n))]; exact a.new c h1 h2⟩
/-- .. is changed -/
theorem Ext.mut {p : Addr} {o : HO} (a : Ext Hs H Hs' H') (n : H p = none) (ns : Hs' p = none) : Ext Hs H Hs' (upd H' p o) :=
  ⟨a.s, fun b u q => by rw [upd_ne (ne_of_none q n)]; exact a.h b u q, fun b u q => by
    rw [upd_ne (ne_of_none q ns)]; exact a.sub b u q, a.new⟩
end

/-! ### owned objects -/
inductive RepO (K : PySem.W.Frag) (Hs : Hp) : HO → D → Prop
  | lst {xs : List V} {ds : List D} : Reps K Hs xs ds → RepO K Hs (.lst xs) (.lst ds)
section
variable {K : PySem.W.Frag} {Hs H Hs' H' Hs'' H'' : Hp} {v : V} {d : D} {o : HO}
theorem RepO.mono (e : Same Hs Hs') (h : RepO K Hs o d) : RepO K Hs' o d := by
  cases h with
  | lst r => exact .lst (r.mono e)
/-- frozen, it is a value -/
theorem RepO.rep {p : Addr} (h : RepO K Hs o d) (e : Hs p = some o) : Rep K Hs (.ref p) d := by
  cases h with
  | lst r => exact .lst e r
theorem RepO.notup (h : RepO K Hs o d) : (∀ xs, o ≠ .tup xs) ∧ ∀ ob u, o ≠ .frz ob u := by
  cases h with
  | lst r => exact ⟨fun _ z => (nomatch z), fun _ _ z => (nomatch z)⟩
/-- a new object that is nobody else's -/
def RepN (K : PySem.W.Frag) (H Hs' H' : Hp) (v : V) (d : D) : Prop := ∃ p o, v = .ref p ∧ H p = none ∧ Hs' p = none ∧ H' p = some o ∧ RepO K Hs' o d
theorem RepN.share (a : Ext Hs H Hs' H') (h : RepN K H Hs' H' v d) : ∃ Hs'', Ext Hs H Hs'' H' ∧ Rep K Hs'' v d := by
  obtain ⟨p, o, rfl, n, ns, e, r⟩ := h
  exact ⟨upd Hs' p o, a.freeze n ns e, (r.mono (same_upd ns)).rep upd_same⟩
theorem RepN.of {H0 : Hp} (a : Same H0 H) (h : RepN K H Hs' H' v d) : RepN K H0 Hs' H' v d := by
  obtain ⟨p, o, rfl, n, z⟩ := h
  exact ⟨p, o, rfl, a.free n, z⟩
/-- an exception -/
def RepX (K : PySem.W.Frag) (Hs : Hp) (H : Hp) (e : D) (cls : Value) (dd : Option Addr) : Prop :=
  ∃ C gs, e = .exn C gs ∧ cls = .ref (He.ga K C) ∧ ((gs = [] ∧ dd = none) ∨ ∃ a fs, dd = some a ∧ H a = some (.xd fs) ∧ RepF K Hs fs gs)

/-! ### ends of values -/
def endV (K : PySem.W.Frag) (Hs H : Hp) (Q : VK) : Vn → Prop
  | .v d => ∀ v Hs' H', Ext Hs H Hs' H' → Rep K Hs' v d → Q v H'
  | .n d => ∀ v Hs' H', Ext Hs H Hs' H' → RepN K H Hs' H' v d → Q v H'
def endX (K : PySem.W.Frag) (W : XK) (Hs H : Hp) (e : D) : Prop := ∀ cls dd Hs' H', Ext Hs H Hs' H' → RepX K Hs' H' e cls dd → W cls dd H'
def endE (K : PySem.W.Frag) (W : XK) (Hs H : Hp) (Q : VK) : Rs → Prop
  | .v d => endV K Hs H Q (.v d)
  | .n d => endV K Hs H Q (.n d)
  | .x e => endX K W Hs H e
theorem endV.r {W : XK} {Q : VK} {u : Vn} (h : endE K W Hs H Q u.r) : endV K Hs H Q u := by cases u <;> exact h
theorem endV.ext {Q : VK} {u : Vn} (a : Ext Hs H Hs' H') (h : endV K Hs H Q u) : endV K Hs' H' Q u := by
  cases u with
  | v d => exact fun v Hs2 H2 b r => h v Hs2 H2 (a.trans b) r
  | n d => exact fun v Hs2 H2 b r => h v Hs2 H2 (a.trans b) (r.of a.h)
theorem endE.ext {W : XK} {Q : VK} {r : Rs} (a : Ext Hs H Hs' H') (h : endE K W Hs H Q r) : endE K W Hs' H' Q r := by
  cases r with
  | v d => exact endV.ext (u := .v d) a h
  | n d => exact endV.ext (u := .n d) a h
  | x e => exact fun c dd Hs2 H2 b r => h c dd Hs2 H2 (a.trans b) r
theorem endV.here {Q : VK} {d : D} (s : Same Hs H) (h : endV K Hs H Q (.v d)) (r : Rep K Hs v d) : Q v H := h v Hs H (Ext.refl s) r
theorem endV.newN {Q : VK} {d : D} {o : HO} {p : Addr} (s : Same Hs H) (h : endV K Hs H Q (.n d)) (n : H p = none) (r : RepO K Hs o d) : Q (.ref p) (upd H p o) :=
  h _ Hs _ ((Ext.refl s).laidN n) ⟨p, o, rfl, n, s.free n, upd_same, r⟩
/-- a new tuple -/
theorem endV.newT {Q : VK} {ds : List D} {xs : List V} {p : Addr} (s : Same Hs H) (h : endV K Hs H Q (.v (.tup ds))) (n : H p = none) (r : Reps K Hs xs ds) : Q (.ref p) (upd H p (.tup xs)) :=
  h _ _ _ ((Ext.refl s).laid n) (.tup (SqT.of upd_same) (r.mono (same_upd (s.free n))))
end

/-! ### readings -/
def bindR (r : Option Rs) (k : D → Option Rs) : Option Rs :=
  match r with
  | none => none
  | some (.x e) => some (.x e)
  | some (.v d) => k d
  | some (.n d) => k d
structure FrE (K : PySem.W.Frag) (env : En) (Hs : Hp) (σ : Sg) (H : Hp) : Prop where
  sub : Same Hs H
  len : env.length = σ.length
  val : ∀ i d, getv env i = some d → ∃ v, σ[i]? = some (some v) ∧ Rep K Hs v d
def rdE (K : PySem.W.Frag) (W : WX) (f : Ev) : TE := fun σ H Q => ∃ env Hs r, FrE K env Hs σ H ∧ f env = some r ∧ endE K (WE W σ) Hs H Q r
/-- the expression is read by the function f -/
abbrev PD (X : Cx) (W : WX) (e : Expr) (f : Ev) : Prop := PE X e (rdE X.K W f)
theorem PE.weak {X : Cx} {e : Expr} {t t' : TE} (h : PE X e t) (w : ∀ σ H Q, t' σ H Q → t σ H Q) : PE X e t' := ⟨fun pins s σ H Q I q => h.run pins s σ H Q I (w σ H Q q)⟩
theorem PA.weak {X : Cx} {e : List Expr} {t t' : TA} (h : PA X e t) (w : ∀ σ H Q, t' σ H Q → t σ H Q) : PA X e t' := ⟨fun pos pins s σ H Q I q => h.run pos pins s σ H Q I (w σ H Q q)⟩
theorem PT.weak {X : Cx} {e : Expr} {t t' : TT} (h : PT X e t) (w : ∀ σ H Q, t' σ H Q → t σ H Q) : PT X e t' := ⟨fun pins s σ H Q I q => h.run pins s σ H Q I (w σ H Q q)⟩
theorem PW.weak {X : Cx} {e : Expr} {t t' : TT} (h : PW X e t) (w : ∀ σ H Q, t' σ H Q → t σ H Q) : PW X e t' := ⟨fun wh pins s σ H Q I q => h.run wh pins s σ H Q I (w σ H Q q)⟩
theorem PS.weak {X : Cx} {e : Stmt} {t t' : TS} (h : PS X e t) (w : ∀ D σ H, t' D σ H → t D σ H) : PS X e t' := ⟨fun pins s σ H D I q => h.run pins s σ H D I (w D σ H q)⟩
theorem PSs.weak {X : Cx} {e : List Stmt} {t t' : TS} (h : PSs X e t) (w : ∀ D σ H, t' D σ H → t D σ H) : PSs X e t' := ⟨fun pins s σ H D I q => h.run pins s σ H D I (w D σ H q)⟩
theorem PI.weak {X : Cx} {tg e : Expr} {t t' : TI} (h : PI X tg e t) (w : ∀ σ H R, t' σ H R → t σ H R) : PI X tg e t' := ⟨fun pins s σ H R I q => h.run pins s σ H R I (w σ H R q)⟩
theorem PI.or {X : Cx} {tg e : Expr} {t t' : TI} (h : PI X tg e t) (h' : PI X tg e t') : PI X tg e (fun σ H R => t σ H R ∨ t' σ H R) :=
  ⟨fun pins s σ H R I q => q.elim (h.run pins s σ H R I) (h'.run pins s σ H R I)⟩
theorem PE.or {X : Cx} {e : Expr} {t t' : TE} (h : PE X e t) (h' : PE X e t') : PE X e (fun σ H Q => t σ H Q ∨ t' σ H Q) :=
  ⟨fun pins s σ H Q I q => q.elim (h.run pins s σ H Q I) (h'.run pins s σ H Q I)⟩
section
variable {X : Cx} {W : WX} {K : PySem.W.Frag} {env : En} {Hs H Hs' H' : Hp} {σ : Sg} {f g : Ev} {r : Rs} {Q Q1 : VK}
theorem FrE.ext (F : FrE K env Hs σ H) (a : Ext Hs H Hs' H') : FrE K env Hs' σ H' := ⟨a.sub, F.len, fun i d e => by
  obtain ⟨v, h1, h2⟩ := F.val i d e
  exact ⟨v, h1, h2.mono a.s⟩⟩
/-- one expression, and on with its value -/
theorem rd_bind {k : D → Option Rs} (F : FrE K env Hs σ H) (e : bindR (f env) k = some r) (q : endE K (WE W σ) Hs H Q r)
    (hk : ∀ v d Hs1 H1, Ext Hs H Hs1 H1 → FrE K env Hs1 σ H1 → Rep K Hs1 v d → k d = some r → endE K (WE W σ) Hs1 H1 Q r → Q1 v H1) : rdE K W f σ H Q1 := by
  cases ef : f env with
  | none => rw [ef] at e; cases e
  | some u =>
    rw [ef] at e
    cases u with
    | x e' =>
      have e2 : r = .x e' := (Option.some.inj e).symm
      subst e2
      exact ⟨env, Hs, _, F, ef, q⟩
    | v d => exact ⟨env, Hs, _, F, ef, fun v Hs1 H1 a rp => hk v d Hs1 H1 a (F.ext a) rp e (q.ext a)⟩
    | n d =>
      refine ⟨env, Hs, _, F, ef, fun v Hs1 H1 a rp => ?_⟩
      obtain ⟨Hs2, a2, rp2⟩ := rp.share a
      exact hk v d Hs2 H1 a2 (F.ext a2) rp2 e (q.ext a2)
end

/-! ### arguments -/
inductive Rl | ok (ds : List D) | x (e : D)
def evs : List Ev → En → Option Rl
  | [], _ => some (.ok [])
  | f :: fs, env => match f env with
    | none => none
    | some (.x e) => some (.x e)
    | some (.v d) => (evs fs env).map fun r => match r with | .ok ds => .ok (d :: ds) | .x e => .x e
    | some (.n d) => (evs fs env).map fun r => match r with | .ok ds => .ok (d :: ds) | .x e => .x e
def bindL (r : Option Rl) (k : List D → Option Rs) : Option Rs :=
  match r with
  | none => none
  | some (.x e) => some (.x e)
  | some (.ok ds) => k ds
def rdA (K : PySem.W.Frag) (W : WX) (fs : List Ev) : TA := fun σ H Q => ∃ env Hs r, FrE K env Hs σ H ∧ evs fs env = some r ∧
  match r with
  | .ok ds => ∀ vs Hs' H', Ext Hs H Hs' H' → Reps K Hs' vs ds → Q vs H'
  | .x e => endX K (WE W σ) Hs H e
abbrev PAD (X : Cx) (W : WX) (es : List Expr) (fs : List Ev) : Prop := PA X es (rdA X.K W fs)
section
variable {X : Cx} {W : WX} {K : PySem.W.Frag} {env : En} {Hs H Hs' H' : Hp} {σ : Sg} {f g : Ev} {fs : List Ev} {r : Rs} {Q : VK} {Q1 : List V → Hp → Prop} {a : Expr} {es : List Expr}
theorem pad_nil : PAD X W [] [] := PA.weak pa_nil fun σ H Q ⟨env, Hs, r, F, e, q⟩ => by
  have e2 := Option.some.inj e
  subst e2
  exact q [] Hs H (Ext.refl F.sub) .nil
theorem pad_cons (ha : PD X W a f) (hr : PAD X W es fs) (hs : starEach (a :: es) X.env = (false, eval a X.env) :: starEach es X.env := by rfl) : PAD X W (a :: es) (f :: fs) := PA.weak (pa_cons ha hr hs) fun σ H Q ⟨env, Hs, r, F, e, q⟩ => by
  have main : ∀ v d Hs1 H1, Ext Hs H Hs1 H1 → Rep X.K Hs1 v d → ((evs fs env).map fun r => match r with | .ok ds => Rl.ok (d :: ds) | .x e => .x e) = some r → rdA X.K W fs σ H1 (fun xs H2 => Q (v :: xs) H2) := by
    intro v d Hs1 H1 a1 rp e1
    cases er : evs fs env with
    | none => rw [er] at e1; cases e1
    | some r1 =>
      rw [er] at e1
      have e2 := Option.some.inj e1
      subst e2
      refine ⟨env, Hs1, r1, F.ext a1, er, ?_⟩
      cases r1 with
      | x e3 => exact fun c dd Hs2 H2 b z => q c dd Hs2 H2 (a1.trans b) z
      | ok ds => exact fun vs Hs2 H2 b z => q _ Hs2 H2 (a1.trans b) (.cons (rp.mono b.s) z)
  show rdE X.K W f σ H _
  unfold evs at e
  cases ef : f env with
  | none => rw [ef] at e; cases e
  | some u =>
    rw [ef] at e
    cases u with
    | x e' =>
      have e2 := Option.some.inj e
      subst e2
      exact ⟨env, Hs, _, F, ef, q⟩
    | v d => exact ⟨env, Hs, _, F, ef, fun v Hs1 H1 a1 rp => main v d Hs1 H1 a1 rp e⟩
    | n d =>
      refine ⟨env, Hs, _, F, ef, fun v Hs1 H1 a1 rp => ?_⟩
      obtain ⟨Hs2, a2, rp2⟩ := rp.share a1
      exact main v d Hs2 H1 a2 rp2 e
theorem rd_bindL {k : List D → Option Rs} (F : FrE K env Hs σ H) (e : bindL (evs fs env) k = some r) (q : endE K (WE W σ) Hs H Q r)
    (hk : ∀ vs ds Hs1 H1, Ext Hs H Hs1 H1 → FrE K env Hs1 σ H1 → Reps K Hs1 vs ds → k ds = some r → endE K (WE W σ) Hs1 H1 Q r → Q1 vs H1) : rdA K W fs σ H Q1 := by
  cases ef : evs fs env with
  | none => rw [ef] at e; cases e
  | some u =>
    rw [ef] at e
    refine ⟨env, Hs, u, F, ef, ?_⟩
    cases u with
    | x e' =>
      have e2 : r = .x e' := (Option.some.inj e).symm
      subst e2
      exact q
    | ok ds => exact fun vs Hs1 H1 a rp => hk vs ds Hs1 H1 a (F.ext a) rp e (q.ext a)
end
end HD

set_option Elab.async false
set_option linter.all false
set_option maxRecDepth 100000
set_option maxHeartbeats 4000000
/-! HDb: expressions by functions on data: names, constants, operators, comparisons, tests, subscripts, displays. -/
namespace HD
open PySem PySem.Spec PyProof.Rows L2

/-! ### names, constants -/
def vr (i : Nat) : Ev := fun env => (getv env i).map Rs.v
def cC (d : D) : Ev := fun _ => some (.v d)
section
variable {X : Cx} {W : WX} {pos : Pos}
theorem pd_of {e : Expr} {t : TE} {f : Ev} (h : PE X e t) (w : ∀ σ H Q env Hs r, FrE X.K env Hs σ H → f env = some r → endE X.K (WE W σ) Hs H Q r → t σ H Q) : PD X W e f :=
  PE.weak h fun σ H Q ⟨env, Hs, r, F, e, q⟩ => w σ H Q env Hs r F e q
theorem pd_var (i : Nat) {x : Str} (hN : X.N[i]? = some x := by rfl) (hv : Vis X.env.scope x := by first | exact Or.inl rfl | exact Or.inr (Or.inl rfl) | exact Or.inr (Or.inr rfl)) (hd : (x == ("__debug__" : Str)) = false := by decide)
    (hcd : (x == ("__classdict__" : Str)) = false := by decide) : PD X W (.Name x pos) (vr i) :=
  pd_of (pe_var hN hv hd hcd) fun σ H Q env Hs r F e q => by
    unfold vr at e
    cases eg : getv env i with
    | none => rw [eg] at e; cases e
    | some d =>
      rw [eg] at e
      have e2 := Option.some.inj e
      subst e2
      obtain ⟨v, h1, h2⟩ := F.val i d eg
      exact ⟨v, h1, endV.here F.sub q h2⟩
theorem pd_const {e : Expr} {v : V} {d : D} (h : PE X e (tC v)) (r : ∀ H, Rep X.K H v d) : PD X W e (cC d) :=
  pd_of h fun σ H Q env Hs u F e q => by
    have e2 := Option.some.inj e
    subst e2
    exact endV.here F.sub q (r Hs)
theorem pd_int {i j} : PD X W (.Constant (.int i) j pos) (cC (.int i)) := pd_const pe_int fun _ => .int i
theorem pd_bl {b j} : PD X W (.Constant (.bool b) j pos) (cC (.bl b)) := pd_const pe_bl fun _ => .bl b
theorem pd_non {j} : PD X W (.Constant .none j pos) (cC .non) := pd_const pe_non fun _ => .non
theorem pd_str {x j} : PD X W (.Constant (.str x) j pos) (cC (.str x)) := pd_const pe_str fun _ => .str x
/-- a constant of the module's top -/
theorem pd_glob {x : Str} {v : V} {u : Value} {d : D} (hg : Gl X x) (hm : X.mg x = some u) (r : RelV v u) (rp : ∀ H, Rep X.K H v d) (hd : (x == ("__debug__" : Str)) = false := by decide) : PD X W (.Name x pos) (cC d) :=
  pd_const (pe_glob hg hm r hd) rp
end

/-! ### operators -/
def rdO (K : PySem.W.Frag) (g : D → D → Option Vn) : R2 := fun x y H Q => ∃ Hs d e u, Same Hs H ∧ Rep K Hs x d ∧ Rep K Hs y e ∧ g d e = some u ∧ endV K Hs H Q u
def rdU (K : PySem.W.Frag) (g : D → Option Vn) : V → Hp → VK → Prop := fun x H Q => ∃ Hs d u, Same Hs H ∧ Rep K Hs x d ∧ g d = some u ∧ endV K Hs H Q u
abbrev OpD (X : Cx) (f : Value → Value → Sem Value) (g : D → D → Option Vn) : Prop := OpR X f (rdO X.K g)
def cOp (g : D → D → Option Vn) (a b : Ev) : Ev := fun env => bindR (a env) fun x => bindR (b env) fun y => (g x y).map Vn.r
def cUn (g : D → Option Vn) (a : Ev) : Ev := fun env => bindR (a env) fun x => (g x).map Vn.r
theorem OpR.weak {X : Cx} {f : Value → Value → Sem Value} {r r' : R2} (h : OpR X f r) (w : ∀ x y H Q, r' x y H Q → r x y H Q) : OpR X f r' :=
  fun pins s σ H x y v u Q I rx ry q => h pins s σ H x y v u Q I rx ry (w x y H Q q)
theorem map_r {o : Option Vn} {r : Rs} (h : o.map Vn.r = some r) : ∃ u, o = some u ∧ r = u.r := by
  cases o with
  | none => cases h
  | some u => exact ⟨u, rfl, (Option.some.inj h).symm⟩
section
variable {X : Cx} {W : WX} {a b : Expr} {f f' : Ev} {pos : Pos} {g : D → D → Option Vn}
theorem rd_two {K : PySem.W.Frag} {σ : Sg} {H : Hp} {Q : VK} {env : En} {Hs : Hp} {r : Rs} (F : FrE K env Hs σ H) (e : cOp g f f' env = some r) (q : endE K (WE W σ) Hs H Q r) :
    tOp (rdO K g) (rdE K W f) (rdE K W f') σ H Q :=
  rd_bind F e q fun v d Hs1 H1 a1 F1 r1 e1 q1 => rd_bind F1 e1 q1 fun v2 d2 Hs2 H2 a2 F2 r2 e2 q2 => by
    obtain ⟨u, h1, rfl⟩ := map_r e2
    exact ⟨Hs2, d, d2, u, F2.sub, r1.mono a2.s, r2, h1, endV.r q2⟩
theorem pd_op {op : Operator} (ho : OpD X (binaryOp op) g) (ha : PD X W a f) (hb : PD X W b f') : PD X W (.BinOp a op b pos) (cOp g f f') :=
  pd_of (pe_op ho ha hb) fun σ H Q env Hs r F e q => rd_two F e q
theorem pd_un {op : UnaryOp} {g : D → Option Vn} (ho : UnR X (unaryOp op) (rdU X.K g)) (ha : PD X W a f) : PD X W (.UnaryOp op a pos) (cUn g f) :=
  pd_of (pe_un ho ha) fun σ H Q env Hs r F e q => rd_bind F e q fun v d Hs1 H1 a1 F1 r1 e1 q1 => by
    obtain ⟨u, h1, rfl⟩ := map_r e1
    exact ⟨Hs1, d, u, F1.sub, r1, h1, endV.r q1⟩
theorem pd_cmp {op : CmpOp} (ho : OpD X (compareOp op) g) (ha : PD X W a f) (hb : PD X W b f') (hm : behindInMarks op b = false) : PD X W (.Compare a [op] [b] pos) (cOp g f f') :=
  pd_of (pe_cmpR ho ha hb hm) fun σ H Q env Hs r F e q => rd_two F e q
end

/-! ### the operators' functions -/
def mulOk (i j : Int) : Bool := decide (i.natAbs.log2 + j.natAbs.log2 < 100000000)
theorem bits_low (x : Int) : Builtin.Int.intBits x ≤ x.natAbs.log2 + 1 := by
  simp only [Builtin.Int.intBits]
  split <;> omega
theorem mulOk_ok {i j : Int} (h : mulOk i j = true) : IntMulOk i j := fun z => by
  have over : bitsLine < (Builtin.Int.intBits i : Int) + Builtin.Int.intBits j := of_decide_eq_true (Bool.and_eq_true_iff.1 z).2
  have few := of_decide_eq_true h
  have hi := bits_low i
  have hj := bits_low j
  have line : bitsLine = 134217728 := rfl
  omega
def addD : D → D → Option Vn
  | .int i, .int j => some (.v (.int (i + j)))
  | .str x, .str y => if x.length + y.length ≤ sizeLine then some (.v (.str (x ++ y))) else none
  | .tup x, .tup y => if x.length + y.length ≤ sizeLine then some (.v (.tup (x ++ y))) else none
  | .lst x, .lst y => if x.length + y.length ≤ sizeLine then some (.n (.lst (x ++ y))) else none
  | _, _ => none
def subD : D → D → Option Vn
  | .int i, .int j => some (.v (.int (i - j)))
  | _, _ => none
def mulD : D → D → Option Vn
  | .int i, .int j => if mulOk i j then some (.v (.int (i * j))) else none
  | .tup l, .int k => if l ≠ [] ∧ 2 ≤ k ∧ k ≤ 1000 ∧ l.length ≤ 1000 then some (.v (.tup (List.replicate k.toNat l).flatten)) else none
  | _, _ => none
def dvOk (j : Int) : Bool := decide (j ≠ 0 ∧ j.natAbs.log2 < 9000)
def fdivD : D → D → Option Vn
  | .int i, .int j => if dvOk j then some (.v (.int (i.fdiv j))) else none
  | _, _ => none
def modD : D → D → Option Vn
  | .int i, .int j => if j = 0 then none else some (.v (.int (i.fmod j)))
  | _, _ => none
def powD : D → D → Option Vn
  | .int i, .int j => if 0 ≤ j ∧ j ≤ 1000000 ∧ i.natAbs < 2 ^ 64 then some (.v (.int (i ^ j.toNat))) else none
  | _, _ => none
def shrD : D → D → Option Vn
  | .int i, .int j => if 0 ≤ j then some (.v (.int (i / 2 ^ j.toNat))) else none
  | _, _ => none
def andD : D → D → Option Vn
  | .int i, .int j => some (.v (.int (Builtin.bitAnd i j)))
  | _, _ => none
def xorD : D → D → Option Vn
  | .int i, .int j => some (.v (.int (Builtin.bitXor i j)))
  | _, _ => none
def negD : D → Option Vn
  | .int i => some (.v (.int (-i)))
  | _ => none
def ltD : D → D → Option Vn
  | .int i, .int j => some (.v (.bl (decide (i < j))))
  | _, _ => none
def leD : D → D → Option Vn
  | .int i, .int j => some (.v (.bl (decide (i ≤ j))))
  | _, _ => none
def gtD : D → D → Option Vn
  | .int i, .int j => some (.v (.bl (decide (j < i))))
  | _, _ => none
def geD : D → D → Option Vn
  | .int i, .int j => some (.v (.bl (decide (j ≤ i))))
  | _, _ => none
section
variable {X : Cx}
/-- an operator on ints alone -/
theorem op_ints {f : Value → Value → Sem Value} {C : Int → Int → Prop} {k : Int → Int → V} {g : D → D → Option Vn} (h : OpR X f (rI C k))
    (hg : ∀ d e u, g d e = some u → ∃ i j z, d = .int i ∧ e = .int j ∧ C i j ∧ u = .v z ∧ ∀ K H, Rep K H (k i j) z) : OpD X f g := OpR.weak h fun x y H Q ⟨Hs, d, e, u, sb, rx, ry, eg, q⟩ => by
  obtain ⟨i, j, z, rfl, rfl, hc, rfl, hz⟩ := hg d e u eg
  cases rx
  cases ry
  exact ⟨i, j, rfl, rfl, hc, endV.here sb q (hz _ _)⟩
theorem ri0 {f : Value → Value → Sem Value} {k : Int → Int → V} (h : OpR X f (rI0 k)) : OpR X f (rI (fun _ _ => True) k) := OpR.weak h fun x y H Q ⟨i, j, e1, e2, _, q⟩ => ⟨i, j, e1, e2, q⟩
theorem opd_sub : OpD X (binaryOp .Sub) subD := op_ints (ri0 op_sub) fun d e u h => by
  unfold subD at h
  split at h
  · exact ⟨_, _, _, rfl, rfl, trivial, (Option.some.inj h).symm, fun _ _ => .int _⟩
  · cases h
theorem opd_fdiv : OpD X (binaryOp .FloorDiv) fdivD := op_ints (C := fun _ j => dvOk j = true) (k := fun i j => .int (i.fdiv j)) (opI fun i j _ _ _ _ _ hc q => floordiv_int (of_decide_eq_true hc).1 q (.inl (PyProof.noPylong_of_log2 (of_decide_eq_true hc).2))) fun d e u h => by
  unfold fdivD at h
  split at h
  · split at h
    · exact ⟨_, _, _, rfl, rfl, by assumption, (Option.some.inj h).symm, fun _ _ => .int _⟩
    · cases h
  · cases h
theorem opd_mod : OpD X (binaryOp .Mod) modD := op_ints op_modN fun d e u h => by
  unfold modD at h
  split at h
  · split at h
    · cases h
    · exact ⟨_, _, _, rfl, rfl, by assumption, (Option.some.inj h).symm, fun _ _ => .int _⟩
  · cases h
theorem opd_pow : OpD X (binaryOp .Pow) powD := op_ints op_pow fun d e u h => by
  unfold powD at h
  split at h
  · split at h
    · exact ⟨_, _, _, rfl, rfl, by assumption, (Option.some.inj h).symm, fun _ _ => .int _⟩
    · cases h
  · cases h
theorem opd_shr : OpD X (binaryOp .RShift) shrD := op_ints op_shr fun d e u h => by
  unfold shrD at h
  split at h
  · split at h
    · exact ⟨_, _, _, rfl, rfl, by assumption, (Option.some.inj h).symm, fun _ _ => .int _⟩
    · cases h
  · cases h
theorem opd_and : OpD X (binaryOp .BitAnd) andD := op_ints (ri0 op_and) fun d e u h => by
  unfold andD at h
  split at h
  · exact ⟨_, _, _, rfl, rfl, trivial, (Option.some.inj h).symm, fun _ _ => .int _⟩
  · cases h
theorem opd_xor : OpD X (binaryOp .BitXor) xorD := op_ints (ri0 op_xor) fun d e u h => by
  unfold xorD at h
  split at h
  · exact ⟨_, _, _, rfl, rfl, trivial, (Option.some.inj h).symm, fun _ _ => .int _⟩
  · cases h
theorem opd_lt : OpD X (compareOp .Lt) ltD := op_ints (ri0 op_lt) fun d e u h => by
  unfold ltD at h
  split at h
  · exact ⟨_, _, _, rfl, rfl, trivial, (Option.some.inj h).symm, fun _ _ => .bl _⟩
  · cases h
theorem opd_le : OpD X (compareOp .LtE) leD := op_ints (ri0 op_le) fun d e u h => by
  unfold leD at h
  split at h
  · exact ⟨_, _, _, rfl, rfl, trivial, (Option.some.inj h).symm, fun _ _ => .bl _⟩
  · cases h
theorem opd_gt : OpD X (compareOp .Gt) gtD := op_ints (ri0 op_gt) fun d e u h => by
  unfold gtD at h
  split at h
  · exact ⟨_, _, _, rfl, rfl, trivial, (Option.some.inj h).symm, fun _ _ => .bl _⟩
  · cases h
theorem opd_ge : OpD X (compareOp .GtE) geD := op_ints (ri0 op_ge) fun d e u h => by
  unfold geD at h
  split at h
  · exact ⟨_, _, _, rfl, rfl, trivial, (Option.some.inj h).symm, fun _ _ => .bl _⟩
  · cases h
theorem opd_neg : UnR X (unaryOp .USub) (rdU X.K negD) := fun pins s σ H x v Q I rx ⟨Hs, d, u, sb, r, eg, q⟩ => by
  unfold negD at eg
  split at eg
  · have e := Option.some.inj eg
    subst e
    cases r
    exact un_neg pins s σ H _ v Q I rx ⟨_, rfl, endV.here sb q (.int _)⟩
  · cases eg
theorem opd_add : OpD X (binaryOp .Add) addD := by
  refine OpR.weak ((ri0 op_add).or (op_add_str.or (op_catA.or op_cat))) fun x y H Q ⟨Hs, d, e, u, sb, rx, ry, eg, q⟩ => ?_
  unfold addD at eg
  split at eg
  · have e := Option.some.inj eg
    subst e
    cases rx
    cases ry
    exact .inl ⟨_, _, rfl, rfl, trivial, endV.here sb q (.int _)⟩
  · split at eg
    · have e := Option.some.inj eg
      subst e
      cases rx
      cases ry
      exact .inr (.inl ⟨_, _, rfl, rfl, by assumption, endV.here sb q (.str _)⟩)
    · cases eg
  · split at eg
    · rename_i x1 y1 hl
      have e := Option.some.inj eg
      subst e
      cases rx with
      | tup h1 r1 =>
        cases ry with
        | tup h2 r2 =>
          refine .inr (.inr (.inl ⟨_, _, _, _, rfl, rfl, same_sqt sb h1, same_sqt sb h2, by rw [r1.length, r2.length]; exact hl, ?_⟩))
          have q3 := r1.append r2
          refine ⟨fun e => ?_, fun _ e => ?_, fun _ _ p hp => endV.newT sb q hp q3⟩
          · subst e
            cases r1
            exact endV.here sb q (.tup h2 r2)
          · subst e
            cases r2
            rw [List.append_nil] at q
            exact endV.here sb q (.tup h1 r1)
    · cases eg
  · split at eg
    · rename_i x1 y1 hl
      have e := Option.some.inj eg
      subst e
      cases rx with
      | lst h1 r1 =>
        cases ry with
        | lst h2 r2 =>
          exact .inr (.inr (.inr ⟨_, _, _, _, rfl, rfl, sb _ _ h1, sb _ _ h2, by rw [r1.length, r2.length]; exact hl, fun p hp => endV.newN sb q hp (.lst (r1.append r2))⟩))
    · cases eg
  · cases eg
theorem opd_mul : OpD X (binaryOp .Mult) mulD := by
  refine OpR.weak ((show OpR X (binaryOp .Mult) (rI (fun i j => mulOk i j = true) fun i j => .int (i * j)) from opI fun _ _ _ _ _ _ _ hc q => mul_int q (mulOk_ok hc)).or op_repT) fun x y H Q ⟨Hs, d, e, u, sb, rx, ry, eg, q⟩ => ?_
  unfold mulD at eg
  split at eg
  · split at eg
    · have e := Option.some.inj eg
      subst e
      cases rx
      cases ry
      exact .inl ⟨_, _, rfl, rfl, by assumption, endV.here sb q (.int _)⟩
    · cases eg
  · split at eg
    · rename_i l k hl
      have e := Option.some.inj eg
      subst e
      cases ry
      cases rx with
      | tup h1 r1 =>
        refine .inr ⟨_, _, _, rfl, rfl, same_sqt sb h1, fun z => hl.1 ?_, hl.2.1, hl.2.2.1, by rw [r1.length]; exact hl.2.2.2, fun p hp => endV.newT sb q hp (Reps.flatten _ r1)⟩
        subst z
        cases r1
        rfl
    · cases eg
  · cases eg
end

/-! ### == of data -/
mutual
/-- data of depth at most n that may be compared -/
def D.sh : Nat → D → Bool
  | _, .non | _, .bl _ | _, .int _ => true
  | _, .str x => PyData.strOk x
  | 0, _ => false
  | n + 1, .tup l => D.shs n l
  | n + 1, .lst l => D.shs n l
  | _, _ => false
def D.shs : Nat → List D → Bool
  | _, [] => true
  | n, d :: r => D.sh n d && D.shs n r
end
mutual
def D.py : D → PyData
  | .non => .none
  | .bl b => .bool b
  | .int i => .int i
  | .str x => .str x
  | .tup l => .tuple (D.pys l)
  | .lst l => .list (D.pys l)
  | _ => .none
def D.pys : List D → List PyData
  | [] => []
  | d :: r => D.py d :: D.pys r
end
mutual
def D.eqv : D → D → Bool
  | .non, .non => true
  | .bl a, .bl b => a == b
  | .bl a, .int j => (if a then 1 else 0) == j
  | .int i, .bl b => i == (if b then 1 else 0)
  | .int i, .int j => i == j
  | .str x, .str y => x == y
  | .lst xs, .lst ys => D.eqvs xs ys
  | .tup xs, .tup ys => D.eqvs xs ys
  | _, _ => false
def D.eqvs : List D → List D → Bool
  | [], [] => true
  | x :: xs, y :: ys => D.eqv x y && D.eqvs xs ys
  | _, _ => false
end
def eqD (d e : D) : Option Vn := if d.sh 60 && e.sh 60 then some (.v (.bl (D.eqv d e))) else none
def neD (d e : D) : Option Vn := if d.sh 60 && e.sh 60 then some (.v (.bl (!D.eqv d e))) else none
section
variable {K : PySem.W.Frag} {H : Hp}
mutual
theorem Rep.dp : ∀ (n : Nat) (d : D) (v : V), D.sh n d = true → Rep K H v d → Dp K H v d.py
  | _, .non, _, _, h => by cases h; exact .non
  | _, .bl b, _, _, h => by cases h; exact .bl b
  | _, .int i, _, _, h => by cases h; exact .int i
  | _, .str x, _, _, h => by cases h; exact .str x
  | 0, .tup l, _, e, _ => by simp [D.sh] at e
  | 0, .lst l, _, e, _ => by simp [D.sh] at e
  | n + 1, .tup l, _, e, h => by
    unfold D.sh at e
    cases h with
    | tup h1 r1 => exact .tup h1 (Reps.dp n l _ e r1)
  | n + 1, .lst l, _, e, h => by
    unfold D.sh at e
    cases h with
    | lst h1 r1 => exact .lst (SqL.of h1) (Reps.dp n l _ e r1)
  | 0, .scr _, _, e, _ => by simp [D.sh] at e
  | n + 1, .scr _, _, e, _ => by simp [D.sh] at e
  | 0, .dic _, _, e, _ => by simp [D.sh] at e
  | n + 1, .dic _, _, e, _ => by simp [D.sh] at e
  | 0, .ins _ _, _, e, _ => by simp [D.sh] at e
  | n + 1, .ins _ _, _, e, _ => by simp [D.sh] at e
  | 0, .exn _ _, _, e, _ => by simp [D.sh] at e
  | n + 1, .exn _ _, _, e, _ => by simp [D.sh] at e
theorem Reps.dp : ∀ (n : Nat) (d : List D) (v : List V), D.shs n d = true → Reps K H v d → DpAll K H v (D.pys d)
  | _, [], _, _, h => by cases h; exact .nil
  | n, d :: r, _, e, h => by
    unfold D.shs at e
    rw [Bool.and_eq_true] at e
    cases h with
    | cons h1 r1 => exact .cons (Rep.dp n d _ e.1 h1) (Reps.dp n r _ e.2 r1)
end
mutual
theorem eqv_py : ∀ (n : Nat) (d e : D), D.sh n d = true → D.sh n e = true → PyData.eqv d.py e.py = D.eqv d e
  | n, d, e, h1, h2 => by
    cases d <;> cases e <;> first
      | (simp [D.py, D.eqv, PyData.eqv]; done)
      | (cases n <;> simp [D.sh] at h1; done)
      | (cases n <;> simp [D.sh] at h2; done)
      | (cases n with
         | zero => simp [D.sh] at h1
         | succ n =>
           unfold D.sh at h1 h2
           simp only [D.py, D.eqv, PyData.eqv]
           exact eqvs_py n _ _ h1 h2)
theorem eqvs_py : ∀ (n : Nat) (d e : List D), D.shs n d = true → D.shs n e = true → PyData.eqvAll (D.pys d) (D.pys e) = D.eqvs d e
  | _, [], [], _, _ => by simp [D.pys, D.eqvs, PyData.eqvAll]
  | _, [], _ :: _, _, _ => by simp [D.pys, D.eqvs, PyData.eqvAll]
  | _, _ :: _, [], _, _ => by simp [D.pys, D.eqvs, PyData.eqvAll]
  | n, x :: xs, y :: ys, h1, h2 => by
    unfold D.shs at h1 h2
    rw [Bool.and_eq_true] at h1 h2
    simp only [D.pys, D.eqvs, PyData.eqvAll]
    rw [eqv_py n x y h1.1 h2.1, eqvs_py n xs ys h1.2 h2.2]
end
mutual
theorem sh_lay : ∀ (n : Nat) (d : D), D.sh n d = true → d.py.canLay0 = true ∧ d.py.depth ≤ n
  | n, d, h => by
    cases d <;> first
      | (simp [D.py, PyData.canLay0, PyData.depth]; done)
      | (cases n <;> simp [D.sh] at h; done)
      | (cases n <;> (simp only [D.sh] at h; simp [D.py, PyData.canLay0, PyData.depth, h]); done)
      | (cases n with
         | zero => simp [D.sh] at h
         | succ n =>
           unfold D.sh at h
           have q := shs_lay n _ h
           refine ⟨by simpa [D.py, PyData.canLay0] using q.1, ?_⟩
           simp only [D.py, PyData.depth]
           omega)
theorem shs_lay : ∀ (n : Nat) (d : List D), D.shs n d = true → PyData.canLayAll0 (D.pys d) = true ∧ PyData.depthAll (D.pys d) ≤ n
  | _, [], _ => by simp [D.pys, PyData.canLayAll0, PyData.depthAll]
  | n, x :: xs, h => by
    unfold D.shs at h
    rw [Bool.and_eq_true] at h
    have q1 := sh_lay n x h.1
    have q2 := shs_lay n xs h.2
    simp only [D.pys, PyData.canLayAll0, PyData.depthAll]
    refine ⟨by rw [q1.1, q2.1]; rfl, by omega⟩
end
theorem sh_shaped {d : D} (h : D.sh 60 d = true) : SeqAt.shaped d.py = true := by
  have q := sh_lay 60 d h
  unfold SeqAt.shaped
  rw [q.1, Bool.true_and]
  exact decide_eq_true (Nat.le_trans q.2 (by decide))
end
section
variable {X : Cx}
theorem opd_eq (hu : X.A.units + 64 < cLine) : OpD X (compareOp .Eq) eqD := OpR.weak (op_eqD hu) fun x y H Q ⟨Hs, d, e, u, sb, rx, ry, eg, q⟩ => by
  unfold eqD at eg
  split at eg
  · rename_i h
    rw [Bool.and_eq_true] at h
    have e := Option.some.inj eg
    subst e
    refine ⟨_, _, Rep.dp 60 d x h.1 (rx.mono sb), Rep.dp 60 _ y h.2 (ry.mono sb), sh_shaped h.1, sh_shaped h.2, ?_⟩
    rw [eqv_py 60 _ _ h.1 h.2]
    exact endV.here sb q (.bl _)
  · cases eg
theorem opd_ne (hu : X.A.units + 64 < cLine) : OpD X (compareOp .NotEq) neD := OpR.weak (op_neD hu) fun x y H Q ⟨Hs, d, e, u, sb, rx, ry, eg, q⟩ => by
  unfold neD at eg
  split at eg
  · rename_i h
    rw [Bool.and_eq_true] at h
    have e := Option.some.inj eg
    subst e
    refine ⟨_, _, Rep.dp 60 d x h.1 (rx.mono sb), Rep.dp 60 _ y h.2 (ry.mono sb), sh_shaped h.1, sh_shaped h.2, ?_⟩
    rw [eqv_py 60 _ _ h.1 h.2]
    exact endV.here sb q (.bl _)
  · cases eg
end
end HD

set_option Elab.async false
set_option linter.all false
set_option maxRecDepth 100000
set_option maxHeartbeats 4000000
/-! HDc: in, is, truth, tests, chains, subscripts, slices, displays, fields; calls of defs and of built-ins. -/
namespace HD
open PySem PySem.Spec PyProof.Rows L2

/-! ### in, is -/
def inB : D → D → Option Bool
  | .str x, .str y => some (!(Builtin.Str.occurrences y x 0 y.length 1).isEmpty)
  | d, .lst l => if D.sh 60 d && D.shs 59 l then some (l.any fun z => D.eqv z d) else none
  | d, .tup l => if D.sh 60 d && D.shs 59 l then some (l.any fun z => D.eqv z d) else none
  | _, _ => none
def inD (d e : D) : Option Vn := (inB d e).map fun b => .v (.bl b)
def notInD (d e : D) : Option Vn := (inB d e).map fun b => .v (.bl (!b))
def isB : D → D → Option Bool
  | .bl a, .bl b => some (decide (a = b))
  | .non, .non => some true
  | .bl _, .non | .int _, .non | .str _, .non | .tup _, .non | .lst _, .non | .scr _, .non | .ins _ _, .non => some false
  | _, _ => none
def isD (d e : D) : Option Vn := (isB d e).map fun b => .v (.bl b)
def isNotD (d e : D) : Option Vn := (isB d e).map fun b => .v (.bl (!b))
section
variable {K : PySem.W.Frag} {H : Hp}
theorem Rep.nonIff {v : V} {d : D} (h : Rep K H v d) : (v = .non ↔ d = .non) := by
  cases h <;> simp
theorem any_py (n : Nat) (d : D) (hd : D.sh n d = true) : ∀ l : List D, D.shs n l = true → ((D.pys l).any fun z => PyData.eqv z d.py) = l.any fun z => D.eqv z d
  | [], _ => rfl
  | x :: r, h => by
    unfold D.shs at h
    rw [Bool.and_eq_true] at h
    show ((x.py :: D.pys r).any _) = _
    rw [List.any_cons, List.any_cons, eqv_py n x d h.1 hd, any_py n d hd r h.2]
mutual
theorem D.sh_up : ∀ (n : Nat) (d : D), D.sh n d = true → D.sh (n + 1) d = true
  | n, d, h => by
    cases d <;> first
      | (simp [D.sh]; done)
      | (simp only [D.sh] at h ⊢; exact h)
      | (cases n <;> simp [D.sh] at h; done)
      | (cases n with
         | zero => simp [D.sh] at h
         | succ n =>
           unfold D.sh at h ⊢
           exact D.shs_up n _ h)
theorem D.shs_up : ∀ (n : Nat) (d : List D), D.shs n d = true → D.shs (n + 1) d = true
  | _, [], _ => by simp [D.shs]
  | n, x :: xs, h => by
    unfold D.shs at h ⊢
    rw [Bool.and_eq_true] at h ⊢
    exact ⟨D.sh_up n x h.1, D.shs_up n xs h.2⟩
end
end
section
variable {X : Cx}
def rInT (K : PySem.W.Frag) (neg : Bool) : R2 := fun x y H Q => ∃ d ds, Dp K H x d ∧ Dp K H y (.tuple ds) ∧ SeqAt.shaped d = true ∧ PyData.canLayAll0 ds = true ∧ Q (.bl (if neg then !(ds.any fun z => PyData.eqv z d) else ds.any fun z => PyData.eqv z d)) H
theorem op_inT (hu : X.A.units + 65 < cLine) : OpR X (compareOp .In) (rInT X.K false) := fun _ _ _ H x y v u _ I rx ry ⟨d, ds, hd, he, sd, se, q⟩ =>
  match Dp.reads I (.tuple ds) y u he ry, Dp.reads I d x v hd rx with
  | ⟨_, ty⟩, ⟨_, tx⟩ => SeqAt.in_tuple_reads ty tx se (SeqAt.canLay_of_shaped sd) (room_in_shaped sd hu) ⟨.bl _, H, I, rfl, q⟩
theorem op_notInT (hu : X.A.units + 65 < cLine) : OpR X (compareOp .NotIn) (rInT X.K true) := fun _ _ _ H x y v u _ I rx ry ⟨d, ds, hd, he, sd, se, q⟩ =>
  match Dp.reads I (.tuple ds) y u he ry, Dp.reads I d x v hd rx with
  | ⟨_, ty⟩, ⟨_, tx⟩ => SeqAt.notIn_tuple_reads ty tx se (SeqAt.canLay_of_shaped sd) (room_in_shaped sd hu) ⟨.bl _, H, I, rfl, q⟩
theorem inB_cases {d e : D} {b : Bool} (h : inB d e = some b) : (∃ x y, d = .str x ∧ e = .str y ∧ b = !(Builtin.Str.occurrences y x 0 y.length 1).isEmpty) ∨
    (∃ l, (e = .lst l ∨ e = .tup l) ∧ D.sh 60 d = true ∧ D.shs 59 l = true ∧ b = l.any fun z => D.eqv z d) := by
  unfold inB at h
  split at h
  · exact .inl ⟨_, _, rfl, rfl, (Option.some.inj h).symm⟩
  · split at h
    · rename_i q
      rw [Bool.and_eq_true] at q
      exact .inr ⟨_, .inl rfl, q.1, q.2, (Option.some.inj h).symm⟩
    · cases h
  · split at h
    · rename_i q
      rw [Bool.and_eq_true] at q
      exact .inr ⟨_, .inr rfl, q.1, q.2, (Option.some.inj h).symm⟩
    · cases h
  · cases h
theorem map_b {o : Option Bool} {f : Bool → Vn} {u : Vn} (h : o.map f = some u) : ∃ b, o = some b ∧ u = f b := by
  cases o with
  | none => cases h
  | some b => exact ⟨b, rfl, (Option.some.inj h).symm⟩
theorem opd_in (hu : X.A.units + 65 < cLine) : OpD X (compareOp .In) inD := OpR.weak (op_in_str.or ((op_inD hu).or (op_inT hu))) fun x y H Q ⟨Hs, d, e, u, sb, rx, ry, eg, q⟩ => by
  obtain ⟨b, eb, rfl⟩ := map_b eg
  rcases inB_cases eb with ⟨x1, y1, rfl, rfl, rfl⟩ | ⟨l, hl, h1, h2, rfl⟩
  · cases rx
    cases ry
    exact .inl ⟨_, _, rfl, rfl, endV.here sb q (.bl _)⟩
  · have d1 := Rep.dp 60 d x h1 (rx.mono sb)
    have s2 := shs_lay 59 l h2
    have q2 := endV.here sb q (.bl _)
    rw [← any_py 60 d h1 l (D.shs_up 59 l h2)] at q2
    rcases hl with rfl | rfl
    · have h3 : D.sh 60 (.lst l) = true := by unfold D.sh; exact h2
      have d2 := Rep.dp 60 _ y h3 (ry.mono sb)
      exact .inr (.inl ⟨_, _, d1, d2, sh_shaped h1, sh_shaped h3, q2⟩)
    · have h3 : D.sh 60 (.tup l) = true := by unfold D.sh; exact h2
      have d2 := Rep.dp 60 _ y h3 (ry.mono sb)
      exact .inr (.inr ⟨_, _, d1, d2, sh_shaped h1, s2.1, q2⟩)
theorem opd_notIn (hu : X.A.units + 65 < cLine) : OpD X (compareOp .NotIn) notInD := OpR.weak (op_notin_str.or ((op_notInD hu).or (op_notInT hu))) fun x y H Q ⟨Hs, d, e, u, sb, rx, ry, eg, q⟩ => by
  obtain ⟨b, eb, rfl⟩ := map_b eg
  rcases inB_cases eb with ⟨x1, y1, rfl, rfl, rfl⟩ | ⟨l, hl, h1, h2, rfl⟩
  · cases rx
    cases ry
    exact .inl ⟨_, _, rfl, rfl, endV.here sb q (.bl _)⟩
  · have d1 := Rep.dp 60 d x h1 (rx.mono sb)
    have s2 := shs_lay 59 l h2
    have q2 := endV.here sb q (.bl _)
    rw [← any_py 60 d h1 l (D.shs_up 59 l h2)] at q2
    rcases hl with rfl | rfl
    · have h3 : D.sh 60 (.lst l) = true := by unfold D.sh; exact h2
      have d2 := Rep.dp 60 _ y h3 (ry.mono sb)
      exact .inr (.inl ⟨_, _, d1, d2, sh_shaped h1, sh_shaped h3, q2⟩)
    · have h3 : D.sh 60 (.tup l) = true := by unfold D.sh; exact h2
      have d2 := Rep.dp 60 _ y h3 (ry.mono sb)
      exact .inr (.inr ⟨_, _, d1, d2, sh_shaped h1, s2.1, q2⟩)
theorem isB_cases {d e : D} {b : Bool} (h : isB d e = some b) : (∃ x y, d = .bl x ∧ e = .bl y ∧ b = decide (x = y)) ∨ (e = .non ∧ (b = true ↔ d = .non)) := by
  unfold isB at h
  split at h
  · exact .inl ⟨_, _, rfl, rfl, (Option.some.inj h).symm⟩
  · exact .inr ⟨rfl, by have := Option.some.inj h; subst this; simp⟩
  all_goals first
    | (refine .inr ⟨rfl, ?_⟩; have e2 := Option.some.inj h; subst e2; constructor <;> intro z <;> cases z; done)
    | (cases h; done)
theorem opd_is : OpD X (compareOp .Is) isD := OpR.weak (op_is_bl.or op_isN) fun x y H Q ⟨Hs, d, e, u, sb, rx, ry, eg, q⟩ => by
  obtain ⟨b, eb, rfl⟩ := map_b eg
  rcases isB_cases eb with ⟨x1, y1, rfl, rfl, rfl⟩ | ⟨rfl, hb⟩
  · cases rx
    cases ry
    exact .inl ⟨_, _, rfl, rfl, endV.here sb q (.bl _)⟩
  · have ey : y = .non := ry.nonIff.mpr rfl
    have e : decide (x = .non) = b := by
      cases b with
      | true => exact decide_eq_true (rx.nonIff.mpr (hb.mp rfl))
      | false => exact decide_eq_false fun z => Bool.noConfusion (hb.mpr (rx.nonIff.mp z))
    exact .inr ⟨ey, by rw [e]; exact endV.here sb q (.bl _)⟩
theorem opd_isNot : OpD X (compareOp .IsNot) isNotD := OpR.weak (op_isnot_bl.or op_notN) fun x y H Q ⟨Hs, d, e, u, sb, rx, ry, eg, q⟩ => by
  obtain ⟨b, eb, rfl⟩ := map_b eg
  rcases isB_cases eb with ⟨x1, y1, rfl, rfl, rfl⟩ | ⟨rfl, hb⟩
  · cases rx
    cases ry
    exact .inl ⟨_, _, rfl, rfl, endV.here sb q (.bl _)⟩
  · have ey : y = .non := ry.nonIff.mpr rfl
    have e : decide (x = .non) = b := by
      cases b with
      | true => exact decide_eq_true (rx.nonIff.mpr (hb.mp rfl))
      | false => exact decide_eq_false fun z => Bool.noConfusion (hb.mpr (rx.nonIff.mp z))
    exact .inr ⟨ey, by rw [e]; exact endV.here sb q (.bl _)⟩
end

/-! ### truth, tests -/
def truD : D → Option Bool
  | .non => some false
  | .bl b => some b
  | .int i => some (i != 0)
  | .str x => if x.length ≤ sizeLine then some (x.length != 0) else none
  | .tup l => some (!l.isEmpty)
  | .lst l => some (!l.isEmpty)
  | .scr l => some (!l.isEmpty)
  | _ => none
inductive Rt | ok (b : Bool) | x (e : D)
abbrev Tv := En → Option Rt
def rdT (K : PySem.W.Frag) (W : WX) (c : Tv) : TT := fun σ H Q => ∃ env Hs r, FrE K env Hs σ H ∧ c env = some r ∧
  match r with
  | .ok b => ∀ Hs' H', Ext Hs H Hs' H' → Q b H'
  | .x e => endX K (WE W σ) Hs H e
abbrev PTD (X : Cx) (W : WX) (e : Expr) (c : Tv) : Prop := PT X e (rdT X.K W c)
abbrev PWD (X : Cx) (W : WX) (e : Expr) (c : Tv) : Prop := PW X e (rdT X.K W c)
def endT (K : PySem.W.Frag) (W : WX) (σ : Sg) (Hs H : Hp) (Q : Bool → Hp → Prop) : Rt → Prop
  | .ok b => ∀ Hs' H', Ext Hs H Hs' H' → Q b H'
  | .x e => endX K (WE W σ) Hs H e
/-- a value's truth -/
def tVal (f : Ev) : Tv := fun env =>
  match f env with
  | none => none
  | some (.x e) => some (.x e)
  | some (.v d) => (truD d).map .ok
  | some (.n d) => (truD d).map .ok
def tNot' (c : Tv) : Tv := fun env =>
  match c env with
  | some (.ok b) => some (.ok (!b))
  | r => r
def tAnd' (c d : Tv) : Tv := fun env =>
  match c env with
  | some (.ok true) => d env
  | r => r
def tOr' (c d : Tv) : Tv := fun env =>
  match c env with
  | some (.ok false) => d env
  | r => r
section
variable {X : Cx} {W : WX} {a b : Expr} {f f' : Ev} {c c' : Tv} {pos : Pos} {rest : List Expr}
theorem Rep.tru {K : PySem.W.Frag} {H : Hp} {v : V} {d : D} {k : Bool} (r : Rep K H v d) (h : truD d = some k) : TruV K v H k := by
  cases r with
  | non => exact (Option.some.inj h).symm
  | bl b => exact (Option.some.inj h).symm
  | int i => exact (Option.some.inj h).symm
  | str x =>
    simp only [truD] at h
    split at h
    · refine ⟨by assumption, ?_⟩
      have := (Option.some.inj h).symm
      rw [this]
      cases x.length with
      | zero => rfl
      | succ n => simp; omega
    · cases h
  | tup h1 r1 =>
    refine .inr (.inl ⟨_, h1, ?_⟩)
    rw [← Option.some.inj h]
    cases r1 <;> rfl
  | lst h1 r1 =>
    refine .inl ⟨_, SqL.of h1, ?_⟩
    rw [← Option.some.inj h]
    cases r1 <;> rfl
  | scr h1 r1 =>
    refine .inl ⟨_, h1, ?_⟩
    rw [← Option.some.inj h]
    cases r1 <;> rfl
  | ins h1 r1 => cases h
theorem rd_tval {K : PySem.W.Frag} {σ : Sg} {H : Hp} {Q : Bool → Hp → Prop} {env : En} {Hs : Hp} {r : Rt} {Q1 : VK} (F : FrE K env Hs σ H) (e : tVal f env = some r) (q : endT K W σ Hs H Q r)
    (hk : ∀ v d Hs1 H1 k, Ext Hs H Hs1 H1 → Rep K Hs1 v d → truD d = some k → Q k H1 → Q1 v H1) : rdE K W f σ H Q1 := by
  unfold tVal at e
  cases ef : f env with
  | none => rw [ef] at e; cases e
  | some u =>
    rw [ef] at e
    cases u with
    | x e' =>
      have e2 : r = .x e' := (Option.some.inj e).symm
      subst e2
      exact ⟨env, Hs, _, F, ef, q⟩
    | v d =>
      dsimp only at e
      cases et : truD d with
      | none => rw [et] at e; cases e
      | some k =>
        rw [et] at e
        have e2 := Option.some.inj e
        subst e2
        exact ⟨env, Hs, _, F, ef, fun v Hs1 H1 a rp => hk v d Hs1 H1 k a rp et (q Hs1 H1 a)⟩
    | n d =>
      dsimp only at e
      cases et : truD d with
      | none => rw [et] at e; cases e
      | some k =>
        rw [et] at e
        have e2 := Option.some.inj e
        subst e2
        refine ⟨env, Hs, _, F, ef, fun v Hs1 H1 a rp => ?_⟩
        obtain ⟨Hs2, a2, rp2⟩ := rp.share a
        exact hk v d Hs2 H1 k a2 rp2 et (q Hs2 H1 a2)
theorem ptd_val (h : PD X W a f) (he : ∀ whole, isTrue a X.env whole = (do let v ← whole; standAt a.pos; holding [v] (truthy v)) := by intro _; rfl) : PTD X W a (tVal f) :=
  PT.weak (pt_truth h he) fun σ H Q ⟨env, Hs, r, F, e, q⟩ => rd_tval F e (by cases r <;> exact q) fun v d Hs1 H1 k a1 rp et q1 => ⟨k, (rp.mono a1.sub).tru et, q1⟩
/-- a comparison's value -/
def tBl (f : Ev) : Tv := fun env =>
  match f env with
  | some (.x e) => some (.x e)
  | some (.v (.bl b)) => some (.ok b)
  | _ => none
theorem ptd_cmp {op : CmpOp} {g : D → D → Option Vn} (ho : OpD X (compareOp op) g) (ha : PD X W a f) (hb : PD X W b f') (hm : behindInMarks op b = false) : PTD X W (.Compare a [op] [b] pos) (tBl (cOp g f f')) :=
  PT.weak (pt_cmpR ho ha hb hm) fun σ H Q ⟨env, Hs, r, F, e, q⟩ => by
    unfold tBl at e
    split at e
    · rename_i e' ef
      have e2 := (Option.some.inj e)
      subst e2
      exact rd_two (r := .x e') F ef q
    · rename_i b' ef
      have e2 := (Option.some.inj e)
      subst e2
      exact rd_two (r := .v (.bl b')) F ef fun v Hs1 H1 a1 rp => by
        cases rp
        exact ⟨_, rfl, q Hs1 H1 a1⟩
    · cases e
theorem ptd_not (h : PTD X W a c) : PTD X W (.UnaryOp .Not a pos) (tNot' c) := PT.weak (pt_not h) fun σ H Q ⟨env, Hs, r, F, e, q⟩ => by
  unfold tNot' at e
  split at e
  · rename_i b ec
    have e2 := Option.some.inj e
    subst e2
    exact ⟨env, Hs, _, F, ec, q⟩
  · rename_i r1 hn
    cases r with
    | ok b => exact absurd e (fun z => hn b z)
    | x e' => exact ⟨env, Hs, _, F, e, q⟩
theorem pwd_and1 (h : PTD X W a c) : PWD X W (.BoolOp .And [a] pos) c := pw_and1 h
theorem pwd_or1 (h : PTD X W a c) : PWD X W (.BoolOp .Or [a] pos) c := pw_or1 h
theorem pwd_and (ha : PTD X W a c) (hb : PWD X W (.BoolOp .And (b :: rest) pos) c') : PWD X W (.BoolOp .And (a :: b :: rest) pos) (tAnd' c c') := PW.weak (pw_and ha hb) fun σ H Q ⟨env, Hs, r, F, e, q⟩ => by
  unfold tAnd' at e
  split at e
  · rename_i ec
    exact ⟨env, Hs, _, F, ec, fun Hs1 H1 a1 => by
      (try dsimp only); rw [if_pos rfl]
      refine ⟨env, Hs1, r, F.ext a1, e, ?_⟩
      cases r with
      | ok b => exact fun Hs2 H2 a2 => q Hs2 H2 (a1.trans a2)
      | x e' => exact fun cl dd Hs2 H2 a2 z => q cl dd Hs2 H2 (a1.trans a2) z⟩
  · rename_i r1 hn
    refine ⟨env, Hs, r, F, e, ?_⟩
    cases r with
    | ok b =>
      cases b with
      | true => exact absurd e hn
      | false => exact fun Hs1 H1 a1 => by (try dsimp only); rw [if_neg Bool.false_ne_true]; exact q Hs1 H1 a1
    | x e' => exact q
theorem pwd_or (ha : PTD X W a c) (hb : PWD X W (.BoolOp .Or (b :: rest) pos) c') : PWD X W (.BoolOp .Or (a :: b :: rest) pos) (tOr' c c') := PW.weak (pw_or ha hb) fun σ H Q ⟨env, Hs, r, F, e, q⟩ => by
  unfold tOr' at e
  split at e
  · rename_i ec
    exact ⟨env, Hs, _, F, ec, fun Hs1 H1 a1 => by
      (try dsimp only); rw [if_neg Bool.false_ne_true]
      refine ⟨env, Hs1, r, F.ext a1, e, ?_⟩
      cases r with
      | ok b => exact fun Hs2 H2 a2 => q Hs2 H2 (a1.trans a2)
      | x e' => exact fun cl dd Hs2 H2 a2 z => q cl dd Hs2 H2 (a1.trans a2) z⟩
  · rename_i r1 hn
    refine ⟨env, Hs, r, F, e, ?_⟩
    cases r with
    | ok b =>
      cases b with
      | false => exact absurd e hn
      | true => exact fun Hs1 H1 a1 => by (try dsimp only); rw [if_pos rfl]; exact q Hs1 H1 a1
    | x e' => exact q
/-! values of and, or, not -/
def cOr (f g : Ev) : Ev := fun env => bindR (f env) fun d => match truD d with
  | some true => some (.v d)
  | some false => g env
  | none => none
def cAnd (f g : Ev) : Ev := fun env => bindR (f env) fun d => match truD d with
  | some true => g env
  | some false => some (.v d)
  | none => none
def cNot (f : Ev) : Ev := fun env => bindR (f env) fun d => (truD d).map fun b => .v (.bl (!b))
theorem pd_one {op} (h : PD X W a f) : PD X W (.BoolOp op [a] pos) f := pe_one h
theorem pd_or (ha : PD X W a f) (hb : PD X W (.BoolOp .Or (b :: rest) pos) f') : PD X W (.BoolOp .Or (a :: b :: rest) pos) (cOr f f') :=
  pd_of (pe_orT ha hb) fun σ H Q env Hs r F e q => rd_bind F e q fun v d Hs1 H1 a1 F1 r1 e1 q1 => by
    cases et : truD d with
    | none => rw [et] at e1; cases e1
    | some k =>
      rw [et] at e1
      refine ⟨k, (r1.mono F1.sub).tru et, ?_⟩
      cases k with
      | true =>
        have e2 := Option.some.inj e1
        subst e2
        (try dsimp only); rw [if_pos rfl]
        exact endV.here F1.sub q1 r1
      | false =>
        (try dsimp only); rw [if_neg Bool.false_ne_true]
        exact ⟨env, Hs1, r, F1, e1, q1⟩
theorem pd_and (ha : PD X W a f) (hb : PD X W (.BoolOp .And (b :: rest) pos) f') : PD X W (.BoolOp .And (a :: b :: rest) pos) (cAnd f f') :=
  pd_of (pe_andT ha hb) fun σ H Q env Hs r F e q => rd_bind F e q fun v d Hs1 H1 a1 F1 r1 e1 q1 => by
    cases et : truD d with
    | none => rw [et] at e1; cases e1
    | some k =>
      rw [et] at e1
      refine ⟨k, (r1.mono F1.sub).tru et, ?_⟩
      cases k with
      | false =>
        have e2 := Option.some.inj e1
        subst e2
        (try dsimp only); rw [if_neg Bool.false_ne_true]
        exact endV.here F1.sub q1 r1
      | true =>
        (try dsimp only); rw [if_pos rfl]
        exact ⟨env, Hs1, r, F1, e1, q1⟩
theorem pd_not (ha : PD X W a f) : PD X W (.UnaryOp .Not a pos) (cNot f) :=
  pd_of (pe_notT ha) fun σ H Q env Hs r F e q => rd_bind F e q fun v d Hs1 H1 a1 F1 r1 e1 q1 => by
    cases et : truD d with
    | none => rw [et] at e1; cases e1
    | some k =>
      rw [et] at e1
      have e2 := Option.some.inj e1
      subst e2
      exact ⟨k, (r1.mono F1.sub).tru et, endV.here F1.sub q1 (.bl _)⟩
def cIte (c : Tv) (f g : Ev) : Ev := fun env =>
  match c env with
  | some (.ok true) => f env
  | some (.ok false) => g env
  | some (.x e) => some (.x e)
  | none => none
theorem pd_ite {t : Expr} (hc : PTD X W t c) (ha : PD X W a f) (hb : PD X W b f') : PD X W (.IfExp t a b pos) (cIte c f f') :=
  pd_of (pe_ifExp hc ha hb) fun σ H Q env Hs r F e q => by
    unfold cIte at e
    split at e
    · rename_i ec
      exact ⟨env, Hs, _, F, ec, fun Hs1 H1 a1 => by (try dsimp only); rw [if_pos rfl]; exact ⟨env, Hs1, r, F.ext a1, e, q.ext a1⟩⟩
    · rename_i ec
      exact ⟨env, Hs, _, F, ec, fun Hs1 H1 a1 => by (try dsimp only); rw [if_neg Bool.false_ne_true]; exact ⟨env, Hs1, r, F.ext a1, e, q.ext a1⟩⟩
    · rename_i e' ec
      have e2 := Option.some.inj e
      subst e2
      exact ⟨env, Hs, _, F, ec, q⟩
    · cases e
/-! chains of two comparisons -/
def cChain (g g' : D → D → Option Vn) (f1 f2 f3 : Ev) : Ev := fun env => bindR (f1 env) fun x => bindR (f2 env) fun y =>
  match g x y with
  | some (.v (.bl true)) => bindR (f3 env) fun z => (g' y z).map Vn.r
  | some (.v (.bl false)) => some (.v (.bl false))
  | _ => none
theorem rd_chain {K : PySem.W.Frag} {g g' : D → D → Option Vn} {f1 f2 f3 : Ev} {σ : Sg} {H : Hp} {Q : VK} {env : En} {Hs : Hp} {r : Rs} (F : FrE K env Hs σ H) (e : cChain g g' f1 f2 f3 env = some r) (q : endE K (WE W σ) Hs H Q r) :
    tChain (rdO K g) (rdO K g') (rdE K W f1) (rdE K W f2) (rdE K W f3) σ H Q :=
  rd_bind F e q fun v d Hs1 H1 a1 F1 r1 e1 q1 => rd_bind F1 e1 q1 fun v2 d2 Hs2 H2 a2 F2 r2 e2 q2 => by
    split at e2
    · rename_i eg
      refine ⟨Hs2, d, d2, _, F2.sub, r1.mono a2.s, r2, eg, fun v Hs3 H3 a3 rp => ?_⟩
      cases rp
      refine ⟨true, rfl, ?_⟩
      (try dsimp only); rw [if_pos rfl]
      exact rd_bind (F2.ext a3) e2 (q2.ext a3) fun v4 d4 Hs4 H4 a4 F4 r4 e4 q4 => by
        obtain ⟨u, h1, rfl⟩ := map_r e4
        exact ⟨Hs4, d2, d4, u, F4.sub, (r2.mono a3.s).mono a4.s, r4, h1, endV.r q4⟩
    · rename_i eg
      refine ⟨Hs2, d, d2, _, F2.sub, r1.mono a2.s, r2, eg, fun v Hs3 H3 a3 rp => ?_⟩
      cases rp
      refine ⟨false, rfl, ?_⟩
      (try dsimp only); rw [if_neg Bool.false_ne_true]
      have e3 := Option.some.inj e2
      subst e3
      exact endV.here a3.sub (q2.ext a3) (.bl _)
    · cases e2
theorem pd_chain {op op' : CmpOp} {g g' : D → D → Option Vn} {d : Expr} {f1 f2 f3 : Ev} (ho : OpD X (compareOp op) g) (ho' : OpD X (compareOp op') g') (ha : PD X W a f1) (hb : PD X W b f2) (hc : PD X W d f3)
    (hm : lastMarks [op, op'] [b, d] = false := by with_unfolding_all rfl) : PD X W (.Compare a [op, op'] [b, d] pos) (cChain g g' f1 f2 f3) :=
  pd_of (pe_chain ho ho' ha hb hc hm) fun σ H Q env Hs r F e q => rd_chain F e q
theorem ptd_chain {op op' : CmpOp} {g g' : D → D → Option Vn} {d : Expr} {f1 f2 f3 : Ev} (ho : OpD X (compareOp op) g) (ho' : OpD X (compareOp op') g') (ha : PD X W a f1) (hb : PD X W b f2) (hc : PD X W d f3)
    (hm : lastMarks [op, op'] [b, d] = false := by with_unfolding_all rfl) : PTD X W (.Compare a [op, op'] [b, d] pos) (tBl (cChain g g' f1 f2 f3)) :=
  PT.weak (pt_chain ho ho' ha hb hc hm) fun σ H Q ⟨env, Hs, r, F, e, q⟩ => by
    unfold tBl at e
    split at e
    · rename_i e' ef
      have e2 := (Option.some.inj e)
      subst e2
      exact rd_chain (r := .x e') F ef q
    · rename_i b' ef
      have e2 := (Option.some.inj e)
      subst e2
      exact rd_chain (r := .v (.bl b')) F ef fun v Hs1 H1 a1 rp => by
        cases rp
        exact ⟨_, rfl, q Hs1 H1 a1⟩
    · cases e
end
end HD

set_option Elab.async false
set_option linter.all false
set_option maxRecDepth 100000
set_option maxHeartbeats 4000000
/-! HDd: subscripts, slices, displays, fields; calls of defs, of built-ins. -/
namespace HD
open PySem PySem.Spec PyProof.Rows L2

/-! ### subscripts -/
def ixD : D → D → Option Vn
  | .tup l, .int i => (atI l i).map .v
  | .lst l, .int i => (atI l i).map .v
  | .scr l, .int i => (atI l i).map .v
  | .str z, .int i => if z.length ≤ sizeLine then (atI z.cps.toList i).map fun c => .v (.str ⟨#[c]⟩) else none
  | _, _ => none
def cutG {α : Type} (xs : List α) (lo hi : Option Int) : List α := (xs.drop (HT.sIx xs.length 0 lo)).take (HT.sIx xs.length xs.length hi - HT.sIx xs.length 0 lo)
def slD : D → Option Int → Option Int → Option Vn
  | .tup l, lo, hi => some (.v (.tup (cutG l lo hi)))
  | .lst l, lo, hi => some (.n (.lst (cutG l lo hi)))
  | .str z, lo, hi => if z.length ≤ sizeLine then some (.v (.str (cutS z lo hi))) else none
  | _, _, _ => none
theorem atI_map {α : Type} {l : List α} {i : Int} {f : α → Vn} {u : Vn} (h : (atI l i).map f = some u) : ∃ d, atI l i = some d ∧ u = f d := by
  cases e : atI l i with
  | none => rw [e] at h; cases h
  | some d => rw [e] at h; exact ⟨d, rfl, (Option.some.inj h).symm⟩
section
variable {K : PySem.W.Frag} {H : Hp}
theorem Reps.atI {vs : List V} {ds : List D} {i : Int} {d : D} (r : Reps K H vs ds) (h : atI ds i = some d) : ∃ v, L2.atI vs i = some v ∧ Rep K H v d := by
  unfold L2.atI at h ⊢
  rw [r.length]
  cases e : ixN ds.length i with
  | none => rw [e] at h; cases h
  | some j =>
    rw [e] at h
    exact r.get h
theorem Reps.cut {vs : List V} {ds : List D} (r : Reps K H vs ds) (lo hi : Option Int) : Reps K H (cutV vs lo hi) (cutG ds lo hi) := by
  unfold cutV cutG
  rw [r.length]
  exact (r.drop _).take _
end
section
variable {X : Cx} {W : WX} {a b : Expr} {f f' : Ev} {pos p2 : Pos}
theorem ixd : IxR X (rdO X.K ixD) := fun value slice pins s σ H x y v u Q I rx ry ⟨Hs, d, e, w, sb, r1, r2, eg, q⟩ hs => by
  refine (ix_list.or (ix_tup.or ix_str)) value slice pins s σ H x y v u Q I rx ry ?_ hs
  unfold ixD at eg
  split at eg
  · obtain ⟨z, ez, rfl⟩ := atI_map eg
    cases r2
    cases r1 with
    | tup h1 q1 =>
      obtain ⟨w, e1, e2⟩ := q1.atI ez
      exact .inr (.inl ⟨_, _, _, _, rfl, rfl, same_sqt sb h1, e1, endV.here sb q e2⟩)
  · obtain ⟨z, ez, rfl⟩ := atI_map eg
    cases r2
    cases r1 with
    | lst h1 q1 =>
      obtain ⟨w, e1, e2⟩ := q1.atI ez
      exact .inl ⟨_, _, _, _, rfl, rfl, SqL.of (sb _ _ h1), e1, endV.here sb q e2⟩
  · obtain ⟨z, ez, rfl⟩ := atI_map eg
    cases r2
    cases r1 with
    | scr h1 q1 =>
      obtain ⟨w, e1, e2⟩ := q1.atI ez
      exact .inl ⟨_, _, _, _, rfl, rfl, sb.seq h1, e1, endV.here sb q e2⟩
  · split at eg
    · obtain ⟨z, ez, rfl⟩ := atI_map eg
      cases r2
      cases r1
      exact .inr (.inr ⟨_, _, _, rfl, rfl, by assumption, ez, endV.here sb q (.str _)⟩)
    · cases eg
  · cases eg
theorem pd_ix (ha : PD X W a f) (hb : PD X W b f') (hs : PlainIx b := by exact fun _ _ => rfl) : PD X W (.Subscript a b pos) (cOp ixD f f') :=
  pd_of (pe_ix ixd ha hb hs) fun σ H Q env Hs r F e q => rd_two F e q
/-! slices -/
def rdSl (K : PySem.W.Frag) : V → Option Int → Option Int → Hp → VK → Prop := fun x lo hi H Q => ∃ Hs d u, Same Hs H ∧ Rep K Hs x d ∧ slD d lo hi = some u ∧ endV K Hs H Q u
theorem SlR.weak {r r' : V → Option Int → Option Int → Hp → VK → Prop} (h : SlR X r) (w : ∀ x lo hi H Q, r' x lo hi H Q → r x lo hi H Q) : SlR X r' :=
  fun pins s σ H x v vl vu lo hi sl Q I rx hs pl pu q => h pins s σ H x v vl vu lo hi sl Q I rx hs pl pu (w x lo hi H Q q)
theorem cutG_all {α : Type} {l : List α} {lo hi : Option Int} (h1 : HT.sIx l.length 0 lo = 0) (h2 : HT.sIx l.length l.length hi = l.length) : cutG l lo hi = l := by
  unfold cutG
  rw [h1, h2]
  simp
theorem sld : SlR X (rdSl X.K) := SlR.weak (sl_tupA.or (sl_list.or sl_str)) fun x lo hi H Q ⟨Hs, d, u, sb, r1, eg, q⟩ => by
  unfold slD at eg
  split at eg
  · have e := Option.some.inj eg
    subst e
    cases r1 with
    | tup h1 q1 =>
      refine .inl ⟨_, _, rfl, same_sqt sb h1, fun ⟨z1, z2⟩ => ?_, fun _ p hp => endV.newT sb q hp (q1.cut lo hi)⟩
      rw [q1.length] at z1 z2
      rw [cutG_all z1 z2] at q
      exact endV.here sb q (.tup h1 q1)
  · have e := Option.some.inj eg
    subst e
    cases r1 with
    | lst h1 q1 => exact .inr (.inl ⟨_, _, rfl, SqL.of (sb _ _ h1), fun p hp => endV.newN sb q hp (.lst (q1.cut lo hi))⟩)
  · split at eg
    · have e := Option.some.inj eg
      subst e
      cases r1
      exact .inr (.inr ⟨_, rfl, by assumption, endV.here sb q (.str _)⟩)
    · cases eg
  · cases eg
/-- a part of a slice -/
inductive Sp1 | no | at (f : Ev)
def Sp1.run : Sp1 → En → (Option Int → Option Rs) → Option Rs
  | .no, _, k => k none
  | .at f, env, k => bindR (f env) fun d => match d with
    | .int i => k (some i)
    | _ => none
def tSp (K : PySem.W.Frag) (W : WX) : Sp1 → TO
  | .no => tNoPart
  | .at f => tPart (rdE K W f)
structure PSp (X : Cx) (W : WX) (e : Option Expr) (p : Sp1) : Prop where
  po : PO X e (tSp X.K W p)
theorem psp_no : PSp X W none .no := ⟨po_none⟩
theorem psp_at (h : PD X W a f) : PSp X W (some a) (.at f) := ⟨po_some h⟩
theorem sp_bind {K : PySem.W.Frag} {p : Sp1} {k : Option Int → Option Rs} {σ : Sg} {H Hs : Hp} {env : En} {r : Rs} {Q : VK} {Q1 : Option Int → Hp → Prop} (F : FrE K env Hs σ H) (e : p.run env k = some r) (q : endE K (WE W σ) Hs H Q r)
    (hk : ∀ o Hs1 H1, Ext Hs H Hs1 H1 → FrE K env Hs1 σ H1 → k o = some r → endE K (WE W σ) Hs1 H1 Q r → Q1 o H1) : tSp K W p σ H Q1 := by
  cases p with
  | no => exact hk none Hs H (Ext.refl F.sub) F e q
  | «at» f =>
    refine rd_bind F e q fun v d Hs1 H1 a1 F1 r1 e1 q1 => ?_
    split at e1
    · cases r1
      exact ⟨_, rfl, hk _ Hs1 H1 a1 F1 e1 q1⟩
    · cases e1
def cSl (f : Ev) (lo hi : Sp1) : Ev := fun env => bindR (f env) fun d => lo.run env fun l => hi.run env fun h => (slD d l h).map Vn.r
theorem pd_slice {lo hi : Option Expr} {pl ph : Sp1} (ha : PD X W a f) (hl : PSp X W lo pl) (hh : PSp X W hi ph) : PD X W (.Subscript a (.Slice lo hi none p2) pos) (cSl f pl ph) :=
  pd_of (pe_slice sld ha hl.po hh.po) fun σ H Q env Hs r F e q => rd_bind F e q fun v d Hs1 H1 a1 F1 r1 e1 q1 =>
    sp_bind F1 e1 q1 fun l Hs2 H2 a2 F2 e2 q2 => sp_bind F2 e2 q2 fun h Hs3 H3 a3 F3 e3 q3 => by
      obtain ⟨u, h1, rfl⟩ := map_r e3
      exact ⟨Hs3, d, u, F3.sub, (r1.mono a2.s).mono a3.s, h1, endV.r q3⟩
end

/-! ### displays -/
def cTup (fs : List Ev) : Ev := fun env => bindL (evs fs env) fun ds => if ds.length ≤ sizeLine then some (.v (.tup ds)) else none
def cLst (fs : List Ev) : Ev := fun env => bindL (evs fs env) fun ds => if ds.length ≤ sizeLine then some (.n (.lst ds)) else none
section
variable {X : Cx} {W : WX} {a b : Expr} {es : List Expr} {fs : List Ev} {f f' : Ev} {pos p2 : Pos}
theorem pd_tup {x1} (h : PAD X W es fs) : PD X W (.Tuple es x1 pos) (cTup fs) := pd_of (pe_tup h) fun σ H Q env Hs r F e q => rd_bindL F e q fun vs ds Hs1 H1 a1 F1 r1 e1 q1 => by
  split at e1
  · have e2 := Option.some.inj e1
    subst e2
    exact ⟨by rw [r1.length]; assumption, fun p hp => endV.newT F1.sub q1 hp r1⟩
  · cases e1
theorem pd_lst (h : PAD X W es fs) : PD X W (.List es pos) (cLst fs) := pd_of (pe_lst h) fun σ H Q env Hs r F e q => rd_bindL F e q fun vs ds Hs1 H1 a1 F1 r1 e1 q1 => by
  split at e1
  · have e2 := Option.some.inj e1
    subst e2
    exact ⟨by rw [r1.length]; assumption, fun p hp => endV.newN F1.sub q1 hp (.lst r1)⟩
  · cases e1
/-! fields of instances -/
def fldD (cs : List Str) (n : Str) : D → Option Vn
  | .ins C gs => if C ∈ cs then (gs.lookup n).map .v else none
  | _ => none
def cFld (cs : List Str) (n : Str) (f : Ev) : Ev := fun env => bindR (f env) fun d => (fldD cs n d).map Vn.r
theorem RepF.look {K : PySem.W.Frag} {H : Hp} {n : Str} : ∀ {fs : List (Str × V)} {gs : List (Str × D)} {d : D}, RepF K H fs gs → gs.lookup n = some d → ∃ v, fs.lookup n = some v ∧ Rep K H v d
  | _, _, _, .nil, e => by cases e
  | (m, v) :: fs, (_, d) :: gs, d', .cons h r, e => by
    rw [List.lookup_cons] at e ⊢
    split
    · rename_i hm
      rw [hm] at e
      have e2 := Option.some.inj e
      subst e2
      exact ⟨v, rfl, h⟩
    · rename_i hm
      rw [hm] at e
      exact RepF.look r e
theorem pd_fld {n : Str} {cs : List Str} (hc : ∀ C ∈ cs, Cls X.K (He.ga X.K C) ∧ NoAttr X.K (He.ga X.K C) n) (ha : PD X W a f) (hb : attributeBase a n X.env (eval a X.env) = eval a X.env := by rfl) : PD X W (.Attribute a n pos) (cFld cs n f) :=
  pd_of (pe_fld ha hb) fun σ H Q env Hs r F e q => rd_bind F e q fun v d Hs1 H1 a1 F1 r1 e1 q1 => by
    obtain ⟨u, h1, rfl⟩ := map_r e1
    unfold fldD at h1
    split at h1
    · split at h1
      · rename_i C gs hm
        cases r1 with
        | ins h2 r2 =>
          cases el : gs.lookup n with
          | none => rw [el] at h1; cases h1
          | some d =>
            rw [el] at h1
            have e2 := Option.some.inj h1
            subst e2
            obtain ⟨v, e3, r3⟩ := r2.look el
            exact ⟨_, _, _, _, v, rfl, F1.sub _ _ h2, (hc C hm).1, (hc C hm).2, e3, endV.here F1.sub q1 r3⟩
      · cases h1
    · cases h1
end

/-! ### calls of defs -/
/-- what a def that keeps φ promises -/
def spD (K : PySem.W.Frag) (φ : List D → Option Rs) : Sp := fun vs H Q E => ∃ Hs ds r, Same Hs H ∧ Reps K Hs vs ds ∧ φ ds = some r ∧ endE K E Hs H Q r
/-- the def that the module's name x holds keeps φ, by at most level k -/
def Dn (P : Program) (w : World) (K : PySem.W.Frag) (mg : Str → Option Value) (base : Heap) (x : Str) (k : Nat) (φ : List D → Option Rs) : Prop :=
  ∃ f fd ps, FnOk P w K mg base (L2.CX P w) k f fd ps (spD K φ) ∧ mg x = some (.ref f) ∧ PySem.W.keepIn K (.ref f) = true ∧ Binds K fd ps []
def cCall (φ : List D → Option Rs) (fs : List Ev) : Ev := fun env => bindL (evs fs env) φ
section
variable {X : Cx} {W : WX} {a b : Expr} {es : List Expr} {fs : List Ev} {f f' : Ev} {pos p : Pos} {φ : List D → Option Rs} {k : Nat} {x : Str}
theorem pd_call (G : Dn X.prog X.w X.K X.mg X.base x k φ) (hr : Room k X.A) (hg : Gl X x) (tk : Takes X W) (ha : PAD X W (a :: es) fs) (hdb : (x == ("__debug__" : Str)) = false := by decide)
    (he : starEach (a :: es) X.env = (false, eval a X.env) :: starEach es X.env := by rfl) (hpl : (backTo pos (starEach es X.env)).any (·.1) = false := by rfl) : PD X W (.Call (.Name x p) (a :: es) [] pos) (cCall φ fs) := by
  obtain ⟨fa, fd, ps, Fn, hm, hk, hb⟩ := G
  exact pd_of (pe_callS Fn hr hg hm hk hb (passAt tk) ha hdb he hpl) fun σ H Q env Hs r F e q => rd_bindL F e q fun vs ds Hs1 H1 a1 F1 r1 e1 q1 => ⟨Hs1, ds, r, F1.sub, r1, e1, q1⟩
def cCall0 (φ : List D → Option Rs) : Ev := fun _ => match φ [] with
  | some (.v d) => some (.v d)
  | some (.n d) => some (.n d)
  | _ => none
theorem pd_call0 (G : Dn X.prog X.w X.K X.mg X.base x k φ) (hr : Room k X.A) (hg : Gl X x) (hdb : (x == ("__debug__" : Str)) = false := by decide) : PD X W (.Call (.Name x p) [] [] pos) (cCall0 φ) := by
  obtain ⟨fa, fd, ps, Fn, hm, hk, hb⟩ := G
  refine pd_of (pe_call0 Fn hr hg hm hk hb .nil passL hdb) fun σ H Q env Hs r F e q => ?_
  unfold cCall0 at e
  split at e
  · rename_i ep
    have e2 := Option.some.inj e
    subst e2
    exact ⟨Hs, [], _, F.sub, .nil, ep, q⟩
  · rename_i ep
    have e2 := Option.some.inj e
    subst e2
    exact ⟨Hs, [], _, F.sub, .nil, ep, q⟩
  · cases e
end

/-! ### calls of built-ins -/
def rdC (K : PySem.W.Frag) (g : List D → Option Vn) : List V → Hp → VK → Prop := fun vs H Q => ∃ Hs ds u, Same Hs H ∧ Reps K Hs vs ds ∧ g ds = some u ∧ endV K Hs H Q u
abbrev CallD (X : Cx) (f : Value) (g : List D → Option Vn) : Prop := CallR X f (rdC X.K g)
theorem CallR.weak {X : Cx} {f : Value} {r r' : List V → Hp → VK → Prop} (h : CallR X f r) (w : ∀ vs H Q, r' vs H Q → r vs H Q) : CallR X f r' := fun pins s σ H xs us Q I rs q => h pins s σ H xs us Q I rs (w xs H Q q)
theorem CallR.or {X : Cx} {f : Value} {r r' : List V → Hp → VK → Prop} (h : CallR X f r) (h' : CallR X f r') : CallR X f (fun vs H Q => r vs H Q ∨ r' vs H Q) := fun pins s σ H xs us Q I rs q => q.elim (h pins s σ H xs us Q I rs) (h' pins s σ H xs us Q I rs)
def cCB (g : List D → Option Vn) (fs : List Ev) : Ev := fun env => bindL (evs fs env) fun ds => (g ds).map Vn.r
section
variable {X : Cx} {W : WX} {a b : Expr} {es : List Expr} {fs : List Ev} {f f' : Ev} {pos p : Pos} {g : List D → Option Vn} {x : Str} {id T : String}
theorem pd_cb (hc : CallD X (.builtin id) g) (hg : Gl X x) (hm : X.mg x = none) (hv : bootBuiltins x = some (.builtin id)) (ha : PAD X W (a :: es) fs) (hn : x ≠ "__name__" := by decide) (hdb : (x == ("__debug__" : Str)) = false := by decide)
    (he : starEach (a :: es) X.env = (false, eval a X.env) :: starEach es X.env := by rfl) (hpl : (backTo pos (starEach es X.env)).any (·.1) = false := by rfl) : PD X W (.Call (.Name x p) (a :: es) [] pos) (cCB g fs) :=
  pd_of (pe_callB hc hg hm hv ha hn hdb he hpl) fun σ H Q env Hs r F e q => rd_bindL F e q fun vs ds Hs1 H1 a1 F1 r1 e1 q1 => by
    obtain ⟨u, h1, rfl⟩ := map_r e1
    exact ⟨Hs1, ds, u, F1.sub, r1, h1, endV.r q1⟩
theorem pd_ct (hc : CallD X (.type T) g) (hg : Gl X x) (hm : X.mg x = none) (hv : bootBuiltins x = some (.type T)) (ha : PAD X W (a :: es) fs) (hn : x ≠ "__name__" := by decide) (hdb : (x == ("__debug__" : Str)) = false := by decide)
    (he : starEach (a :: es) X.env = (false, eval a X.env) :: starEach es X.env := by rfl) (hpl : (backTo pos (starEach es X.env)).any (·.1) = false := by rfl) : PD X W (.Call (.Name x p) (a :: es) [] pos) (cCB g fs) :=
  pd_of (pe_callTy hc hg hm hv ha hn hdb he hpl) fun σ H Q env Hs r F e q => rd_bindL F e q fun vs ds Hs1 H1 a1 F1 r1 e1 q1 => by
    obtain ⟨u, h1, rfl⟩ := map_r e1
    exact ⟨Hs1, ds, u, F1.sub, r1, h1, endV.r q1⟩
end
/-! ### which built-ins -/
def D.ints : List D → Option (List Int)
  | [] => some []
  | .int i :: r => (D.ints r).map (i :: ·)
  | _ => none
def D.bls : List D → Option (List Bool)
  | [] => some []
  | .bl i :: r => (D.bls r).map (i :: ·)
  | _ => none
theorem ints_rep {K : PySem.W.Frag} {H : Hp} : ∀ {ds : List D} {ns : List Int} {vs : List V}, D.ints ds = some ns → Reps K H vs ds → vs = ns.map V.int
  | [], ns, vs, e, r => by
    cases r
    rw [← Option.some.inj e] <;> rfl
  | d :: ds, ns, vs, e, r => by
    cases r with
    | cons h r =>
      unfold D.ints at e
      split at e
      · rename_i heq
        cases heq
      · rename_i i r2 heq
        cases heq
        cases h
        cases e2 : D.ints ds with
        | none => rw [e2] at e; cases e
        | some ms =>
          rw [e2] at e
          rw [← Option.some.inj e, ints_rep e2 r] <;> rfl
      · cases e
theorem bls_rep {K : PySem.W.Frag} {H : Hp} : ∀ {ds : List D} {ns : List Bool} {vs : List V}, D.bls ds = some ns → Reps K H vs ds → vs = ns.map V.bl
  | [], ns, vs, e, r => by
    cases r
    rw [← Option.some.inj e] <;> rfl
  | d :: ds, ns, vs, e, r => by
    cases r with
    | cons h r =>
      unfold D.bls at e
      split at e
      · rename_i heq
        cases heq
      · rename_i i r2 heq
        cases heq
        cases h
        cases e2 : D.bls ds with
        | none => rw [e2] at e; cases e
        | some ms =>
          rw [e2] at e
          rw [← Option.some.inj e, bls_rep e2 r] <;> rfl
      · cases e
def lenD : D → Option Nat
  | .tup l => some l.length
  | .lst l => some l.length
  | .scr l => some l.length
  | .str x => if x.length ≤ sizeLine then some x.length else none
  | _ => none
def lenC : List D → Option Vn
  | [d] => (lenD d).map fun (n : Nat) => .v (.int (n : Int))
  | _ => none
def absC : List D → Option Vn
  | [.int i] => some (.v (.int (if i < 0 then -i else i)))
  | _ => none
def sumC : List D → Option Vn
  | [.lst l] => (D.ints l).map fun ns => .v (.int ns.sum)
  | _ => none
def allC : List D → Option Vn
  | [.lst l] => (D.bls l).map fun ns => .v (.bl (ns.all id))
  | _ => none
def tupleC : List D → Option Vn
  | [.lst l] => some (.v (.tup l))
  | [.tup l] => some (.v (.tup l))
  | [.scr l] => some (.v (.tup l))
  | _ => none
def listC : List D → Option Vn
  | [.lst l] => some (.n (.lst l))
  | [.tup l] => some (.n (.lst l))
  | [.scr l] => some (.n (.lst l))
  | _ => none
def min2C : List D → Option Vn
  | [.int i, .int j] => some (.v (.int (if j < i then j else i)))
  | _ => none
def intC : List D → Option Vn
  | [.int i] => some (.v (.int i))
  | [.bl b] => some (.v (.int (if b then 1 else 0)))
  | [.str a] => if a.length ≤ 640 then (PySem.intText? a).map fun n => .v (.int n) else none
  | _ => none
def strC : List D → Option Vn
  | [.int i] => if i.natAbs.log2 < 1920 then some (.v (.str (toString i))) else none
  | _ => none
section
variable {X : Cx}
theorem map_u {α : Type} {o : Option α} {f : α → Vn} {u : Vn} (h : o.map f = some u) : ∃ b, o = some b ∧ u = f b := by
  cases o with
  | none => cases h
  | some b => exact ⟨b, rfl, (Option.some.inj h).symm⟩
theorem cd_len : CallD X (.builtin "len") lenC := CallR.weak call_len fun vs H Q ⟨Hs, ds, u, sb, r, eg, q⟩ => by
  unfold lenC at eg
  split at eg
  · obtain ⟨n, e1, rfl⟩ := map_u eg
    cases r with
    | cons h r =>
      cases r
      refine ⟨_, n, rfl, ?_, endV.here sb q (.int _)⟩
      unfold lenD at e1
      split at e1
      · have e2 := Option.some.inj e1
        subst e2
        cases h with
        | tup h1 r1 => exact .inr ⟨_, same_sqt sb h1, r1.length.symm⟩
      · have e2 := Option.some.inj e1
        subst e2
        cases h with
        | lst h1 r1 => exact .inl ⟨_, SqL.of (sb _ _ h1), r1.length.symm⟩
      · have e2 := Option.some.inj e1
        subst e2
        cases h with
        | scr h1 r1 => exact .inl ⟨_, sb.seq h1, r1.length.symm⟩
      · split at e1
        · have e2 := Option.some.inj e1
          subst e2
          cases h
          exact ⟨by assumption, rfl⟩
        · cases e1
      · cases e1
  · cases eg
theorem reps1 {K : PySem.W.Frag} {H : Hp} {vs : List V} {d : D} (r : Reps K H vs [d]) : ∃ v, vs = [v] ∧ Rep K H v d := by
  cases r with
  | cons h r => cases r; exact ⟨_, rfl, h⟩
theorem reps2 {K : PySem.W.Frag} {H : Hp} {vs : List V} {d e : D} (r : Reps K H vs [d, e]) : ∃ v w, vs = [v, w] ∧ Rep K H v d ∧ Rep K H w e := by
  cases r with
  | cons h r =>
    obtain ⟨w, rfl, h2⟩ := reps1 r
    exact ⟨_, _, rfl, h, h2⟩
theorem cd_abs : CallD X (.builtin "abs") absC := CallR.weak call_abs fun vs H Q ⟨Hs, ds, u, sb, r, eg, q⟩ => by
  unfold absC at eg
  split at eg
  · have e2 := Option.some.inj eg
    subst e2
    obtain ⟨v, rfl, h⟩ := reps1 r
    cases h
    exact ⟨_, rfl, endV.here sb q (.int _)⟩
  · cases eg
theorem cd_min2 (hc : X.calm = true) : CallD X (.builtin "min") min2C := CallR.weak (call_min2 hc) fun vs H Q ⟨Hs, ds, u, sb, r, eg, q⟩ => by
  unfold min2C at eg
  split at eg
  · have e2 := Option.some.inj eg
    subst e2
    obtain ⟨v, w, rfl, h, h2⟩ := reps2 r
    cases h
    cases h2
    exact ⟨_, _, rfl, endV.here sb q (.int _)⟩
  · cases eg
theorem cd_sum (hc : X.calm = true) : CallD X (.builtin "sum") sumC := CallR.weak (cr_sum hc) fun vs H Q ⟨Hs, ds, u, sb, r, eg, q⟩ => by
  unfold sumC at eg
  split at eg
  · obtain ⟨ns, e1, rfl⟩ := map_u eg
    obtain ⟨v, rfl, h⟩ := reps1 r
    cases h with
    | lst h1 r1 => exact ⟨_, ns, rfl, by rw [← ints_rep e1 r1]; exact SqL.of (sb _ _ h1), endV.here sb q (.int _)⟩
  · cases eg
theorem cd_all (hc : X.calm = true) : CallD X (.builtin "all") allC := CallR.weak (cr_all hc) fun vs H Q ⟨Hs, ds, u, sb, r, eg, q⟩ => by
  unfold allC at eg
  split at eg
  · obtain ⟨ns, e1, rfl⟩ := map_u eg
    obtain ⟨v, rfl, h⟩ := reps1 r
    cases h with
    | lst h1 r1 => exact ⟨_, ns, rfl, by rw [← bls_rep e1 r1]; exact SqL.of (sb _ _ h1), endV.here sb q (.bl _)⟩
  · cases eg
theorem cd_tuple : CallD X (.type "tuple") tupleC := CallR.weak call_tuple_of fun vs H Q ⟨Hs, ds, u, sb, r, eg, q⟩ => by
  unfold tupleC at eg
  split at eg
  · have e2 := Option.some.inj eg
    subst e2
    obtain ⟨v, rfl, h⟩ := reps1 r
    cases h with
    | lst h1 r1 => exact ⟨_, _, rfl, .inl ⟨SqL.of (sb _ _ h1), fun l hl => endV.newT sb q hl r1⟩⟩
  · have e2 := Option.some.inj eg
    subst e2
    obtain ⟨v, rfl, h⟩ := reps1 r
    cases h with
    | tup h1 r1 => exact ⟨_, _, rfl, .inr ⟨same_sqt sb h1, endV.here sb q (.tup h1 r1)⟩⟩
  · have e2 := Option.some.inj eg
    subst e2
    obtain ⟨v, rfl, h⟩ := reps1 r
    cases h with
    | scr h1 r1 => exact ⟨_, _, rfl, .inl ⟨sb.seq h1, fun l hl => endV.newT sb q hl r1⟩⟩
  · cases eg
theorem cd_list : CallD X (.type "list") listC := CallR.weak call_list_of fun vs H Q ⟨Hs, ds, u, sb, r, eg, q⟩ => by
  unfold listC at eg
  split at eg
  · have e2 := Option.some.inj eg
    subst e2
    obtain ⟨v, rfl, h⟩ := reps1 r
    cases h with
    | lst h1 r1 => exact ⟨_, _, rfl, .inl (SqL.of (sb _ _ h1)), fun l hl => endV.newN sb q hl (.lst r1)⟩
  · have e2 := Option.some.inj eg
    subst e2
    obtain ⟨v, rfl, h⟩ := reps1 r
    cases h with
    | tup h1 r1 => exact ⟨_, _, rfl, .inr (same_sqt sb h1), fun l hl => endV.newN sb q hl (.lst r1)⟩
  · have e2 := Option.some.inj eg
    subst e2
    obtain ⟨v, rfl, h⟩ := reps1 r
    cases h with
    | scr h1 r1 => exact ⟨_, _, rfl, .inl (sb.seq h1), fun l hl => endV.newN sb q hl (.lst r1)⟩
  · cases eg
theorem cd_int : CallD X (.type "int") intC := CallR.weak (call_int1.or call_int_str) fun vs H Q ⟨Hs, ds, u, sb, r, eg, q⟩ => by
  unfold intC at eg
  split at eg
  · have e2 := Option.some.inj eg
    subst e2
    obtain ⟨v, rfl, h⟩ := reps1 r
    cases h
    exact .inl (.inl ⟨_, rfl, endV.here sb q (.int _)⟩)
  · have e2 := Option.some.inj eg
    subst e2
    obtain ⟨v, rfl, h⟩ := reps1 r
    cases h
    exact .inl (.inr ⟨_, rfl, endV.here sb q (.int _)⟩)
  · split at eg
    · obtain ⟨n, e1, rfl⟩ := map_u eg
      obtain ⟨v, rfl, h⟩ := reps1 r
      cases h
      exact .inr ⟨_, n, rfl, e1, by assumption, endV.here sb q (.int _)⟩
    · cases eg
  · cases eg
theorem cd_str : CallD X (.type "str") strC := CallR.weak call_str_int fun vs H Q ⟨Hs, ds, u, sb, r, eg, q⟩ => by
  unfold strC at eg
  split at eg
  · split at eg
    · have e2 := Option.some.inj eg
      subst e2
      obtain ⟨v, rfl, h⟩ := reps1 r
      cases h
      exact ⟨_, rfl, by assumption, endV.here sb q (.str _)⟩
    · cases eg
  · cases eg
end
end HD

set_option Elab.async false
set_option linter.all false
set_option maxRecDepth 100000
set_option maxHeartbeats 4000000
/-! HDe: what a loop or a comprehension walks; targets; comprehensions. -/
namespace HD
open PySem PySem.Spec PyProof.Rows L2
open RZ (ItzT iZipA pi_zipA)
open RT (ItvT iRevA pi_revA)

/-! ### what is walked -/
/-- fz: the things walked must stay as they are -/
inductive Ri | ok (ds : List D) (fz : Bool) | x (e : D)
abbrev Iv := En → Option Ri
structure WalkD (K : PySem.W.Frag) (J : It) (ds : List D) (Hs1 : Hp) : Prop where
  go : ∀ i H, i < ds.length → Same Hs1 H → J.go i H
  stop : ∀ H, Same Hs1 H → J.stop ds.length H
  yld : ∀ i H Hs x H' (d : D), ds[i]? = some d → Same Hs1 Hs → Same Hs H → J.yld i H x H' → ∃ Hs', Ext Hs H Hs' H' ∧ Rep K Hs' x d
/-- what must stay while it is walked -/
def stay (fz : Bool) (Hs : Hp) : Hp := if fz then Hs else fun _ => none
theorem stay_sub {fz : Bool} {Hs : Hp} : Same (stay fz Hs) Hs := fun b o h => by
  unfold stay at h
  split at h
  · exact h
  · cases h
theorem WalkD.up {K : PySem.W.Frag} {J : It} {ds : List D} {Hs Hs1 : Hp} (w : WalkD K J ds Hs) (s : Same Hs Hs1) : WalkD K J ds Hs1 :=
  ⟨fun i H hi h => w.go i H hi (s.trans h), fun H h => w.stop H (s.trans h), fun i H Hs2 x H' d hd s1 s2 y => w.yld i H Hs2 x H' d hd (s.trans s1) s2 y⟩
def endI (K : PySem.W.Frag) (W : XK) (Hs H : Hp) (R : It → Hp → Prop) : Ri → Prop
  | .ok ds fz => ∀ J Hs1 H1, Ext Hs H Hs1 H1 → WalkD K J ds (stay fz Hs1) → R J H1
  | .x e => endX K W Hs H e
def rdI (K : PySem.W.Frag) (W : WX) (g : Iv) : TI := fun σ H R => ∃ env Hs r, FrE K env Hs σ H ∧ g env = some r ∧ endI K (WE W σ) Hs H R r
abbrev PID (X : Cx) (W : WX) (tg e : Expr) (g : Iv) : Prop := PI X tg e (rdI X.K W g)
section
variable {K : PySem.W.Frag} {Hs1 : Hp} {ds es : List D} {vs ws : List V} {a b : Addr}
theorem walkD_list (h : SqL K Hs1 a vs) (r : Reps K Hs1 vs ds) : WalkD K (Itl K a) ds Hs1 where
  go := fun i H hi s => walk_list.goes i H (by rw [r.length]; exact hi) (s.seq h)
  stop := fun H s => by rw [← r.length]; exact walk_list.stops H (s.seq h)
  yld := fun i H Hs x H' d hd s1 s2 y => by
    have hi : i < vs.length := by rw [r.length]; exact (List.getElem?_eq_some_iff.mp hd).1
    obtain ⟨rfl, e⟩ := walk_list.yields i H x H' hi ((s1.trans s2).seq h) y
    obtain ⟨v, e1, r1⟩ := r.get hd
    rw [e] at e1
    cases e1
    exact ⟨Hs, Ext.refl s2, r1.mono s1⟩
theorem walkD_tup (h : SqT K Hs1 a vs) (r : Reps K Hs1 vs ds) : WalkD K (Itt K a) ds Hs1 where
  go := fun i H hi s => walk_tup.goes i H (by rw [r.length]; exact hi) (same_sqt s h)
  stop := fun H s => by rw [← r.length]; exact walk_tup.stops H (same_sqt s h)
  yld := fun i H Hs x H' d hd s1 s2 y => by
    have hi : i < vs.length := by rw [r.length]; exact (List.getElem?_eq_some_iff.mp hd).1
    obtain ⟨rfl, e⟩ := walk_tup.yields i H x H' hi (same_sqt (s1.trans s2) h) y
    obtain ⟨v, e1, r1⟩ := r.get hd
    rw [e] at e1
    cases e1
    exact ⟨Hs, Ext.refl s2, r1.mono s1⟩
theorem walkD_str {z : Str} : WalkD K (Its z) (z.cps.toList.map fun c => .str ⟨#[c]⟩) Hs1 where
  go := fun i H hi s => by
    rw [List.length_map] at hi
    exact walk_str.goes i H (by simpa using hi) trivial
  stop := fun H s => by
    rw [List.length_map]
    have := (walk_str (z := z)).stops H trivial
    simpa using this
  yld := fun i H Hs x H' d hd s1 s2 y => by
    rw [List.getElem?_map] at hd
    obtain ⟨rfl, c, e, rfl⟩ := y
    have e2 : z.cps.toList[i]? = some c := by rw [Array.getElem?_toList]; exact e
    rw [e2] at hd
    have e3 := Option.some.inj hd
    subst e3
    exact ⟨Hs, Ext.refl s2, .str _⟩
def rgD (lo : Int) (n : Nat) : List D := (List.range n).map fun (i : Nat) => .int (lo + (i : Int))
theorem rgD_get {lo : Int} {n i : Nat} {d : D} (h : (rgD lo n)[i]? = some d) : d = .int (lo + (i : Int)) := by
  unfold rgD at h
  rw [List.getElem?_map] at h
  cases e : (List.range n)[i]? with
  | none => rw [e] at h; cases h
  | some j =>
    rw [e] at h
    have hj : j = i := by
      have := List.getElem?_eq_some_iff.mp e
      obtain ⟨h1, h2⟩ := this
      rw [List.getElem_range] at h2
      exact h2.symm
    subst hj
    exact (Option.some.inj h).symm
theorem rgD_len {lo : Int} {n : Nat} : (rgD lo n).length = n := by unfold rgD; rw [List.length_map, List.length_range]
theorem walkD_range {lo : Int} {n : Nat} : WalkD K (Itr lo n) (rgD lo n) Hs1 where
  go := fun i H hi s => by rw [rgD_len] at hi; exact hi
  stop := fun H s => by rw [rgD_len]; exact Nat.le_refl _
  yld := fun i H Hs x H' d hd s1 s2 y => by
    obtain ⟨rfl, rfl⟩ := y
    rw [rgD_get hd]
    exact ⟨Hs, Ext.refl s2, .int _⟩
/-- pairs, made new at each turn -/
def prD : List D → List D → List D
  | x :: xs, y :: ys => .tup [x, y] :: prD xs ys
  | _, _ => []
def enD : Nat → List D → List D
  | k, x :: xs => .tup [.int k, x] :: enD (k + 1) xs
  | _, [] => []
theorem prD_get : ∀ {xs ys : List D} {i : Nat} {d : D}, (prD xs ys)[i]? = some d → ∃ x y, d = .tup [x, y] ∧ xs[i]? = some x ∧ ys[i]? = some y
  | [], _, _, _, h => by simp [prD] at h
  | _ :: _, [], _, _, h => by simp [prD] at h
  | x :: xs, y :: ys, 0, d, h => by
    have e := Option.some.inj h
    exact ⟨x, y, e.symm, rfl, rfl⟩
  | x :: xs, y :: ys, i + 1, d, h => prD_get (xs := xs) (ys := ys) (i := i) h
theorem prD_len : ∀ {xs ys : List D}, (prD xs ys).length = min xs.length ys.length
  | [], _ => by simp [prD]
  | _ :: _, [] => by simp [prD]
  | x :: xs, y :: ys => by
    show (prD xs ys).length + 1 = min (xs.length + 1) (ys.length + 1)
    rw [prD_len]
    omega
theorem enD_get : ∀ {xs : List D} {k i : Nat} {d : D}, (enD k xs)[i]? = some d → ∃ x, d = .tup [.int ((k + i : Nat) : Int), x] ∧ xs[i]? = some x
  | [], _, _, _, h => by simp [enD] at h
  | x :: xs, k, 0, d, h => by
    have e := Option.some.inj h
    exact ⟨x, e.symm, rfl⟩
  | x :: xs, k, i + 1, d, h => by
    obtain ⟨y, e1, e2⟩ := enD_get (xs := xs) (k := k + 1) (i := i) h
    exact ⟨y, by rw [e1]; congr 3; omega, e2⟩
theorem enD_len : ∀ {xs : List D} {k : Nat}, (enD k xs).length = xs.length
  | [], _ => rfl
  | x :: xs, k => congrArg (· + 1) (enD_len (xs := xs) (k := k + 1))
theorem yld_pair {Hs H H' : Hp} {T : Addr} {x y : V} {d e : D} (s : Same Hs H) (hn : H T = none) (eh : H' = upd H T (.tup [x, y])) (r1 : Rep K Hs x d) (r2 : Rep K Hs y e) : ∃ Hs', Ext Hs H Hs' H' ∧ Rep K Hs' (.ref T) (.tup [d, e]) := by
  subst eh
  have sm : Same Hs (upd Hs T (.tup [x, y])) := same_upd (s.free hn)
  exact ⟨upd Hs T (.tup [x, y]), (Ext.refl s).laid hn, .tup (SqT.of upd_same) (.cons (r1.mono sm) (.cons (r2.mono sm) .nil))⟩
theorem walkD_enum (h : SqL K Hs1 a vs) (r : Reps K Hs1 vs ds) : WalkD K (Ite K a) (enD 0 ds) Hs1 where
  go := fun i H hi s => walk_enum.goes i H (by rw [r.length, ← enD_len (k := 0)]; exact hi) (s.seq h)
  stop := fun H s => by rw [enD_len, ← r.length]; exact walk_enum.stops H (s.seq h)
  yld := fun i H Hs x H' d hd s1 s2 y => by
    have hi : i < vs.length := by rw [r.length, ← enD_len (k := 0)]; exact (List.getElem?_eq_some_iff.mp hd).1
    obtain ⟨T, x1, y1, rfl, hn, eh, e1, e2⟩ := walk_enum.yields i H x H' hi ((s1.trans s2).seq h) y
    obtain ⟨z, rfl, ez⟩ := enD_get hd
    obtain ⟨v, e3, r3⟩ := r.get ez
    dsimp only at e1 e2
    rw [e2] at e3
    cases e3
    have e4 := Option.some.inj e1
    subst e4
    rw [Nat.zero_add]
    exact yld_pair s2 hn eh (.int _) (r3.mono s1)
theorem walkD_zip (h : SqL K Hs1 a vs) (r : Reps K Hs1 vs ds) (h2 : SqL K Hs1 b ws) (r2 : Reps K Hs1 ws es) : WalkD K (Itz K a b) (prD ds es) Hs1 where
  go := fun i H hi s => (walk_zip rfl).goes i H (by rw [r.length, r2.length, ← prD_len]; exact hi) ⟨s.seq h, s.seq h2⟩
  stop := fun H s => by rw [prD_len, ← r.length, ← r2.length]; exact (walk_zip rfl).stops H ⟨s.seq h, s.seq h2⟩
  yld := fun i H Hs x H' d hd s1 s2 y => by
    have hi : i < min vs.length ws.length := by rw [r.length, r2.length, ← prD_len]; exact (List.getElem?_eq_some_iff.mp hd).1
    obtain ⟨T, x1, y1, rfl, hn, eh, e1, e2⟩ := (walk_zip rfl).yields i H x H' hi ⟨(s1.trans s2).seq h, (s1.trans s2).seq h2⟩ y
    obtain ⟨z, z2, rfl, ez, ez2⟩ := prD_get hd
    obtain ⟨v, e3, r3⟩ := r.get ez
    obtain ⟨v2, e4, r4⟩ := r2.get ez2
    dsimp only at e1 e2
    rw [e1] at e3
    rw [e2] at e4
    cases e3
    cases e4
    exact yld_pair s2 hn eh (r3.mono s1) (r4.mono s1)
theorem walkD_zipT (h : SqT K Hs1 a vs) (r : Reps K Hs1 vs ds) (h2 : SqT K Hs1 b ws) (r2 : Reps K Hs1 ws es) : WalkD K (ItzT K a b) (prD ds es) Hs1 where
  go := fun i H hi s => by
    rw [prD_len, ← r.length, ← r2.length] at hi
    exact ⟨vs, ws, vs[i], ws[i], same_sqt s h, same_sqt s h2, by simp, by simp⟩
  stop := fun H s => by
    rw [prD_len, ← r.length, ← r2.length]
    exact ⟨vs, ws, same_sqt s h, same_sqt s h2, by omega⟩
  yld := fun i H Hs x H' d hd s1 s2 y => by
    obtain ⟨T, x1, y1, rfl, hn, eh, e1, e2⟩ := y
    obtain ⟨z, z2, rfl, ez, ez2⟩ := prD_get hd
    obtain ⟨v, e3, r3⟩ := r.get ez
    obtain ⟨v2, e4, r4⟩ := r2.get ez2
    rw [e1 vs (same_sqt (s1.trans s2) h)] at e3
    rw [e2 ws (same_sqt (s1.trans s2) h2)] at e4
    cases e3
    cases e4
    exact yld_pair s2 hn eh (r3.mono s1) (r4.mono s1)
theorem rev_get {α : Type} {l : List α} {i : Nat} {d : α} (h : l.reverse[i]? = some d) : i < l.length ∧ l[l.length - 1 - i]? = some d := by
  have hi : i < l.length := by
    have := (List.getElem?_eq_some_iff.mp h).1
    simpa using this
  rw [List.getElem?_reverse hi] at h
  exact ⟨hi, h⟩
theorem walkD_rev (h : SqL K Hs1 a vs) (r : Reps K Hs1 vs ds) : WalkD K (Itv K a vs.length) ds.reverse Hs1 where
  go := fun i H hi s => walk_rev.goes i H (by rw [r.length, ← List.length_reverse (as := ds)]; exact hi) (s.seq h)
  stop := fun H s => by rw [List.length_reverse, ← r.length]; exact walk_rev.stops H (s.seq h)
  yld := fun i H Hs x H' d hd s1 s2 y => by
    obtain ⟨hi, e⟩ := rev_get hd
    obtain ⟨rfl, e2⟩ := walk_rev.yields i H x H' (by rw [r.length]; exact hi) ((s1.trans s2).seq h) y
    obtain ⟨v, e3, r3⟩ := r.get e
    rw [← r.length, e2] at e3
    cases e3
    exact ⟨Hs, Ext.refl s2, r3.mono s1⟩
theorem walkD_revT (h : SqT K Hs1 a vs) (r : Reps K Hs1 vs ds) : WalkD K (ItvT K a vs.length) ds.reverse Hs1 where
  go := fun i H hi s => by
    rw [List.length_reverse, ← r.length] at hi
    exact ⟨hi, vs, vs[vs.length - 1 - i], same_sqt s h, by simp [show vs.length - 1 - i < vs.length by omega]⟩
  stop := fun H s => by rw [List.length_reverse, ← r.length]; exact Nat.le_refl _
  yld := fun i H Hs x H' d hd s1 s2 y => by
    obtain ⟨hi, e⟩ := rev_get hd
    obtain ⟨rfl, e2⟩ := y
    obtain ⟨v, e3, r3⟩ := r.get e
    rw [← r.length, e2 vs (same_sqt (s1.trans s2) h)] at e3
    cases e3
    exact ⟨Hs, Ext.refl s2, r3.mono s1⟩
end
/-! the walked expressions -/
def seqD : D → Option Ri
  | .tup l => some (.ok l true)
  | .lst l => some (.ok l true)
  | .scr l => some (.ok l true)
  | .str z => some (.ok (z.cps.toList.map fun c => .str ⟨#[c]⟩) false)
  | _ => none
def bindI (r : Option Rs) (k : D → Option Ri) : Option Ri :=
  match r with
  | none => none
  | some (.x e) => some (.x e)
  | some (.v d) => k d
  | some (.n d) => k d
def bindLI (r : Option Rl) (k : List D → Option Ri) : Option Ri :=
  match r with
  | none => none
  | some (.x e) => some (.x e)
  | some (.ok ds) => k ds
/-- a list, a tuple, a text -/
def iSeq (f : Ev) : Iv := fun env => bindI (f env) seqD
def rgOk (i : Int) : Bool := decide (-(2 ^ 62) ≤ i ∧ i < 2 ^ 62)
def iRange1 (f : Ev) : Iv := fun env => bindLI (evs [f] env) fun ds => match ds with
  | [.int j] => if rgOk j then some (.ok (rgD 0 j.toNat) false) else none
  | _ => none
def iRange2 (f g : Ev) : Iv := fun env => bindLI (evs [f, g] env) fun ds => match ds with
  | [.int i, .int j] => if rgOk i && rgOk j then some (.ok (rgD i (j - i).toNat) false) else none
  | _ => none
def rgD3 (lo c : Int) (n : Nat) : List D := (List.range n).map fun (i : Nat) => .int (lo + (i : Int) * c)
def iRange3 (f g h : Ev) : Iv := fun env => bindLI (evs [f, g, h] env) fun ds => match ds with
  | [.int i, .int j, .int c] => if rgOk i && rgOk j && decide (0 < c ∧ c < 2 ^ 62) then some (.ok (rgD3 i c ((j - i + c - 1) / c).toNat) false) else none
  | _ => none
def iEn (fs : List Ev) : Iv := fun env => bindLI (evs fs env) fun ds => match ds with
  | [.lst l] => some (.ok (enD 0 l) true)
  | [.scr l] => some (.ok (enD 0 l) true)
  | _ => none
def iZp (fs : List Ev) : Iv := fun env => bindLI (evs fs env) fun ds => match ds with
  | [.lst l, .lst m] => some (.ok (prD l m) true)
  | [.tup l, .tup m] => some (.ok (prD l m) true)
  | _ => none
def iRv (f : Ev) : Iv := fun env => bindI (f env) fun d => match d with
  | .tup l => some (.ok l.reverse true)
  | .lst l => some (.ok l.reverse true)
  | _ => none
section
variable {X : Cx} {W : WX} {a b tg : Expr} {es : List Expr} {fs : List Ev} {f f' : Ev} {pos p tpos : Pos} {K : PySem.W.Frag} {env : En} {Hs H : Hp} {σ : Sg} {r : Ri} {R : It → Hp → Prop} {Q1 : VK} {Q2 : List V → Hp → Prop}
theorem endI.ext {W : XK} {Hs' H' : Hp} (a : Ext Hs H Hs' H') (h : endI K W Hs H R r) : endI K W Hs' H' R r := by
  cases r with
  | ok ds fz => exact fun J Hs1 H1 b w => h J Hs1 H1 (a.trans b) w
  | x e => exact fun c dd Hs2 H2 b z => h c dd Hs2 H2 (a.trans b) z
theorem ri_bind {k : D → Option Ri} (F : FrE K env Hs σ H) (e : bindI (f env) k = some r) (q : endI K (WE W σ) Hs H R r)
    (hk : ∀ v d Hs1 H1, Ext Hs H Hs1 H1 → FrE K env Hs1 σ H1 → Rep K Hs1 v d → k d = some r → endI K (WE W σ) Hs1 H1 R r → Q1 v H1) : rdE K W f σ H Q1 := by
  cases ef : f env with
  | none => rw [ef] at e; cases e
  | some u =>
    rw [ef] at e
    cases u with
    | x e' =>
      have e2 : r = .x e' := (Option.some.inj e).symm
      subst e2
      exact ⟨env, Hs, _, F, ef, q⟩
    | v d => exact ⟨env, Hs, _, F, ef, fun v Hs1 H1 a rp => hk v d Hs1 H1 a (F.ext a) rp e (q.ext a)⟩
    | n d =>
      refine ⟨env, Hs, _, F, ef, fun v Hs1 H1 a rp => ?_⟩
      obtain ⟨Hs2, a2, rp2⟩ := rp.share a
      exact hk v d Hs2 H1 a2 (F.ext a2) rp2 e (q.ext a2)
theorem ri_bindL {k : List D → Option Ri} (F : FrE K env Hs σ H) (e : bindLI (evs fs env) k = some r) (q : endI K (WE W σ) Hs H R r)
    (hk : ∀ vs ds Hs1 H1, Ext Hs H Hs1 H1 → FrE K env Hs1 σ H1 → Reps K Hs1 vs ds → k ds = some r → endI K (WE W σ) Hs1 H1 R r → Q2 vs H1) : rdA K W fs σ H Q2 := by
  cases ef : evs fs env with
  | none => rw [ef] at e; cases e
  | some u =>
    rw [ef] at e
    refine ⟨env, Hs, u, F, ef, ?_⟩
    cases u with
    | x e' =>
      have e2 : r = .x e' := (Option.some.inj e).symm
      subst e2
      exact q
    | ok ds => exact fun vs Hs1 H1 a rp => hk vs ds Hs1 H1 a (F.ext a) rp e (q.ext a)
theorem endI.done {W : XK} {J : It} {ds : List D} (s : Same Hs H) (q : endI K W Hs H R (.ok ds true)) (w : WalkD K J ds Hs) : R J H := q J Hs H (Ext.refl s) w
theorem endI.doneF {W : XK} {J : It} {ds : List D} (s : Same Hs H) (q : endI K W Hs H R (.ok ds false)) (w : WalkD K J ds fun _ => none) : R J H := q J Hs H (Ext.refl s) w
/-- a list, a tuple, a text -/
def iAny (K : PySem.W.Frag) (tl : TE) : TI := fun σ H R => tl σ H fun x H1 => (∃ a, x = .ref a ∧ (∃ xs, SqL K H1 a xs) ∧ R (Itl K a) H1) ∨ (∃ a, x = .ref a ∧ (∃ xs, SqT K H1 a xs) ∧ R (Itt K a) H1) ∨ ∃ z, x = .str z ∧ R (Its z) H1
theorem pi_any {l : Expr} {tl : TE} (hl : PE X l tl) : PI X tg l (iAny X.K tl) := ⟨fun pins s σ H R I h => by
  refine thn (hl.run pins s σ H _ I h) ?_
  rintro v s1 ⟨x, H1, I1, r1, ⟨a, rfl, ⟨xs, hq⟩, q⟩ | ⟨a, rfl, ⟨xs, hq⟩, q⟩ | ⟨z, rfl, q⟩⟩
  · cases r1
    exact (I1.list hq).elim fun _ z => wpAny_pyIter_list z.2.1.isList (pi_one (tk := s1.toks) I1 _ (turn_list a _) ⟨_, Heap.get?_push_size _ rfl, rfl, rfl⟩ q)
  · cases r1
    exact (I1.tuple hq).elim fun its z => wpAny_pyIter_tuple (items := its.toArray) z.2.1 (pi_one (tk := s1.toks) I1 _ (turn_tuple a _) ⟨_, Heap.get?_push_size _ rfl, rfl, rfl⟩ q)
  · obtain ⟨t, rfl⟩ := r1
    cases ha : z.cps.all (· < 128)
    · exact wpAny_pyIter_wide ha (pi_one (tk := s1.toks) I1 _ (turn_str _ z t "str_iterator" (.inr rfl)) ⟨_, Heap.get?_push_size _ rfl, rfl, rfl⟩ q)
    · exact wpAny_pyIter_ascii ha (pi_one (tk := s1.toks) I1 _ (turn_str _ z t "str_ascii_iterator" (.inl rfl)) ⟨_, Heap.get?_push_size _ rfl, rfl, rfl⟩ q)⟩
theorem pid_seq (ha : PD X W a f) : PID X W tg a (iSeq f) := PI.weak (pi_any ha) fun σ H R ⟨env, Hs, r, F, e, q⟩ => ri_bind F e q fun v d Hs1 H1 a1 F1 r1 e2 q1 => by
  unfold seqD at e2
  split at e2
  · have e3 := Option.some.inj e2
    subst e3
    cases r1 with
    | tup h1 r1 => exact .inr (.inl ⟨_, rfl, ⟨_, same_sqt F1.sub h1⟩, endI.done F1.sub q1 (walkD_tup h1 r1)⟩)
  · have e3 := Option.some.inj e2
    subst e3
    cases r1 with
    | lst h1 r1 => exact .inl ⟨_, rfl, ⟨_, SqL.of (F1.sub _ _ h1)⟩, endI.done F1.sub q1 (walkD_list (SqL.of h1) r1)⟩
  · have e3 := Option.some.inj e2
    subst e3
    cases r1 with
    | scr h1 r1 => exact .inl ⟨_, rfl, ⟨_, F1.sub.seq h1⟩, endI.done F1.sub q1 (walkD_list h1 r1)⟩
  · have e3 := Option.some.inj e2
    subst e3
    cases r1
    exact .inr (.inr ⟨_, rfl, endI.doneF F1.sub q1 walkD_str⟩)
  · cases e2
theorem rgOk_ok {i : Int} (h : rgOk i = true) : -(2 ^ 62) ≤ i ∧ i < 2 ^ 62 := of_decide_eq_true h
theorem pid_range1 (hg : Gl X "range") (hm : X.mg "range" = none) (ha : PAD X W [a] [f]) (hs : starEach [a] X.env = [(false, eval a X.env)] := by rfl) : PID X W tg (.Call (.Name "range" p) [a] [] pos) (iRange1 f) :=
  PI.weak (pi_range1 hg hm ha hs) fun σ H R ⟨env, Hs, r, F, e, q⟩ => ri_bindL F e q fun vs ds Hs1 H1 a1 F1 r1 e1 q1 => by
    split at e1
    · split at e1
      · rename_i hj
        have e3 := Option.some.inj e1
        subst e3
        obtain ⟨v, rfl, h⟩ := reps1 r1
        cases h
        exact ⟨_, rfl, (rgOk_ok hj).1, (rgOk_ok hj).2, endI.doneF F1.sub q1 walkD_range⟩
      · cases e1
    · cases e1
theorem pid_range2 (hg : Gl X "range") (hm : X.mg "range" = none) (ha : PAD X W [a, b] [f, f']) (hs : starEach [a, b] X.env = [(false, eval a X.env), (false, eval b X.env)] := by rfl) (hs2 : starEach [b] X.env = [(false, eval b X.env)] := by rfl) :
    PID X W tg (.Call (.Name "range" p) [a, b] [] pos) (iRange2 f f') :=
  PI.weak (pi_range2 hg hm ha hs hs2) fun σ H R ⟨env, Hs, r, F, e, q⟩ => ri_bindL F e q fun vs ds Hs1 H1 a1 F1 r1 e1 q1 => by
    split at e1
    · split at e1
      · rename_i hj
        rw [Bool.and_eq_true] at hj
        have e3 := Option.some.inj e1
        subst e3
        obtain ⟨v, w, rfl, h, h2⟩ := reps2 r1
        cases h
        cases h2
        exact ⟨_, _, rfl, ⟨(rgOk_ok hj.1).1, (rgOk_ok hj.1).2, (rgOk_ok hj.2).1, (rgOk_ok hj.2).2⟩, endI.doneF F1.sub q1 walkD_range⟩
      · cases e1
    · cases e1
theorem pid_enum {elts : List Expr} {kk : Nat} (hg : Gl X "enumerate") (hm : X.mg "enumerate" = none) (ha : PAD X W [a] [f]) (hs : starEach [a] X.env = [(false, eval a X.env)] := by rfl) : PID X W (.Tuple elts kk tpos) (.Call (.Name "enumerate" p) [a] [] pos) (iEn [f]) :=
  PI.weak (pi_enum hg hm ha hs) fun σ H R ⟨env, Hs, r, F, e, q⟩ => ri_bindL F e q fun vs ds Hs1 H1 a1 F1 r1 e1 q1 => by
    split at e1
    · have e3 := Option.some.inj e1
      subst e3
      obtain ⟨v, rfl, h⟩ := reps1 r1
      cases h with
      | lst h r => exact ⟨_, _, rfl, SqL.of (F1.sub _ _ h), endI.done F1.sub q1 (walkD_enum (SqL.of h) r)⟩
    · have e3 := Option.some.inj e1
      subst e3
      obtain ⟨v, rfl, h⟩ := reps1 r1
      cases h with
      | scr h r => exact ⟨_, _, rfl, F1.sub.seq h, endI.done F1.sub q1 (walkD_enum h r)⟩
    · cases e1
theorem pid_zip {elts : List Expr} {kk : Nat} (hg : Gl X "zip") (hm : X.mg "zip" = none) (ha : PAD X W [a, b] fs)
    (hs : starEach [a, b] X.env = (false, eval a X.env) :: starEach [b] X.env := by rfl) (hpl : (backTo pos (starEach [b] X.env)).any (·.1) = false := by rfl) : PID X W (.Tuple elts kk tpos) (.Call (.Name "zip" p) [a, b] [] pos) (iZp fs) :=
  PI.weak (pi_zipA hg hm ha hs hpl) fun σ H R ⟨env, Hs, r, F, e, q⟩ => ri_bindL F e q fun vs ds Hs1 H1 a1 F1 r1 e1 q1 => by
    split at e1
    · have e3 := Option.some.inj e1
      subst e3
      obtain ⟨v, w, rfl, h, h2⟩ := reps2 r1
      cases h with
      | lst h r =>
        cases h2 with
        | lst h2 r2 => exact ⟨_, _, _, _, rfl, .inl ⟨SqL.of (F1.sub _ _ h), SqL.of (F1.sub _ _ h2), endI.done F1.sub q1 (walkD_zip (SqL.of h) r (SqL.of h2) r2)⟩⟩
    · have e3 := Option.some.inj e1
      subst e3
      obtain ⟨v, w, rfl, h, h2⟩ := reps2 r1
      cases h with
      | tup h r =>
        cases h2 with
        | tup h2 r2 => exact ⟨_, _, _, _, rfl, .inr ⟨same_sqt F1.sub h, same_sqt F1.sub h2, endI.done F1.sub q1 (walkD_zipT h r h2 r2)⟩⟩
    · cases e1
theorem pid_rev (hg : Gl X "reversed") (hm : X.mg "reversed" = none) (ha : PD X W a f) (hs : starEach [a] X.env = (false, eval a X.env) :: starEach [] X.env := by rfl) : PID X W tg (.Call (.Name "reversed" p) [a] [] pos) (iRv f) :=
  PI.weak (pi_revA hg hm ha hs) fun σ H R ⟨env, Hs, r, F, e, q⟩ => ri_bind F e q fun v d Hs1 H1 a1 F1 r1 e1 q1 => by
    split at e1
    · have e3 := Option.some.inj e1
      subst e3
      cases r1 with
      | tup h r => exact ⟨_, _, rfl, .inr ⟨same_sqt F1.sub h, endI.done F1.sub q1 (walkD_revT h r)⟩⟩
    · have e3 := Option.some.inj e1
      subst e3
      cases r1 with
      | lst h r => exact ⟨_, _, rfl, .inl ⟨SqL.of (F1.sub _ _ h), endI.done F1.sub q1 (walkD_rev (SqL.of h) r)⟩⟩
    · cases e1
end

/-! ### targets -/
inductive Tg | nm (i : Nat) | tu (is : List Nat)
def setAll : List Nat → List D → En → Option En
  | [], [], env => some env
  | i :: is, d :: ds, env => setAll is ds (env.set i (.sh d))
  | _, _, _ => none
def Tg.set : Tg → D → En → Option En
  | .nm i, d, env => some (env.set i (.sh d))
  | .tu is, .tup ds, env => setAll is ds env
  | _, _, _ => none
def Tg.ix : Tg → List Nat
  | .nm i => [i]
  | .tu is => is
def gsOf : List Nat → TGs
  | [] => gNil
  | i :: is => gCons (gName i) (gsOf is)
def gOf (K : PySem.W.Frag) : Tg → TG
  | .nm i => gName i
  | .tu is => gTup K is.length (gsOf is)
theorem getv_set {env : En} {i j : Nat} {s : Slot} {d : D} (h : getv (env.set i s) j = some d) : (j = i ∧ i < env.length ∧ s.val = some d) ∨ (j ≠ i ∧ getv env j = some d) := by
  unfold getv at h ⊢
  by_cases e : i = j
  · subst e
    by_cases hi : i < env.length
    · rw [List.getElem?_set_self hi] at h
      exact .inl ⟨rfl, hi, h⟩
    · rw [List.getElem?_eq_none (by simpa using hi)] at h
      cases h
  · rw [List.getElem?_set_ne e] at h
    exact .inr ⟨fun z => e z.symm, h⟩
section
variable {K : PySem.W.Frag} {env env' : En} {Hs H : Hp} {σ : Sg} {v : V} {d : D}
theorem FrE.set (F : FrE K env Hs σ H) (r : Rep K Hs v d) (i : Nat) : FrE K (env.set i (.sh d)) Hs (σ.set i (some v)) H where
  sub := F.sub
  len := by rw [List.length_set, List.length_set]; exact F.len
  val := fun j e h => by
    rcases getv_set h with ⟨rfl, hi, e2⟩ | ⟨hn, h2⟩
    · have e3 := Option.some.inj e2
      subst e3
      exact ⟨v, List.getElem?_set_self (by rw [← F.len]; exact hi), r⟩
    · obtain ⟨w, h3, h4⟩ := F.val j e h2
      exact ⟨w, by rw [List.getElem?_set_ne (fun z => hn z.symm)]; exact h3, h4⟩
theorem gs_frE : ∀ (is : List Nat) (ds : List D) (vs : List V) (env env' : En) (σ : Sg) (Q : Sg → Hp → Prop), FrE K env Hs σ H → Reps K Hs vs ds → setAll is ds env = some env' →
    (∀ σ', FrE K env' Hs σ' H → (∀ j, j ∉ is → σ'[j]? = σ[j]?) → Q σ' H) → gsOf is vs σ H Q
  | [], ds, vs, env, env', σ, Q, F, r, e, k => by
    cases ds with
    | nil =>
      cases r
      have e2 := Option.some.inj e
      subst e2
      exact ⟨rfl, k σ F fun _ _ => rfl⟩
    | cons d ds => cases e
  | i :: is, ds, vs, env, env', σ, Q, F, r, e, k => by
    cases ds with
    | nil => cases e
    | cons d ds =>
      cases r with
      | cons h r =>
        refine ⟨_, _, rfl, ?_⟩
        refine gs_frE is ds _ _ env' _ Q (F.set h i) r e fun σ' F' hj => k σ' F' fun j hn => ?_
        have h1 : j ∉ is := fun z => hn (List.mem_cons_of_mem _ z)
        have h2 : i ≠ j := fun z => hn (by rw [z]; exact List.mem_cons_self)
        rw [hj j h1, List.getElem?_set_ne h2]
theorem setAll_len : ∀ (is : List Nat) (ds : List D) (env env' : En), setAll is ds env = some env' → is.length = ds.length
  | [], [], _, _, _ => rfl
  | [], _ :: _, _, _, h => by cases h
  | _ :: _, [], _, _, h => by cases h
  | i :: is, d :: ds, env, env', h => congrArg (· + 1) (setAll_len is ds _ env' h)
theorem setAll_len2 : ∀ (is : List Nat) (ds : List D) (env env' : En), setAll is ds env = some env' → env'.length = env.length
  | [], [], _, _, h => by rw [← Option.some.inj h]
  | [], _ :: _, _, _, h => by cases h
  | _ :: _, [], _, _, h => by cases h
  | i :: is, d :: ds, env, env', h => by
    rw [setAll_len2 is ds _ env' h, List.length_set]
theorem Tg.set_len {tg : Tg} (e : tg.set d env = some env') : env'.length = env.length := by
  unfold Tg.set at e
  split at e
  · rw [← Option.some.inj e, List.length_set]
  · exact setAll_len2 _ _ _ _ e
  · cases e
theorem tg_frE {tg : Tg} {Q : Sg → Hp → Prop} (F : FrE K env Hs σ H) (r : Rep K Hs v d) (e : tg.set d env = some env') (k : ∀ σ', FrE K env' Hs σ' H → (∀ j, j ∉ tg.ix → σ'[j]? = σ[j]?) → Q σ' H) : gOf K tg v σ H Q := by
  unfold Tg.set at e
  split at e
  · have e2 := Option.some.inj e
    subst e2
    exact k _ (F.set r _) fun j hn => List.getElem?_set_ne (fun z => hn (by rw [z]; exact List.mem_cons_self))
  · cases r with
    | tup h r => exact ⟨_, _, rfl, same_sqt F.sub h, by rw [r.length]; exact (setAll_len _ _ _ _ e).symm, gs_frE _ _ _ _ _ _ _ F r e k⟩
  · cases e
end

/-! ### comprehensions -/
def wipeE (env : En) : List Nat → En
  | [] => env
  | v :: vs => (wipeE env vs).set v .un
def tYes' : Tv := fun _ => some (.ok true)
def lcGo (tg : Tg) (c : Tv) (elt : Ev) (env : En) : List D → Option (List D)
  | [] => some []
  | d :: r => match tg.set d env with
    | none => none
    | some env1 => match c env1 with
      | some (.ok true) => match elt env1 with
        | some (.v y) => (lcGo tg c elt env r).map (y :: ·)
        | some (.n y) => (lcGo tg c elt env r).map (y :: ·)
        | _ => none
      | some (.ok false) => lcGo tg c elt env r
      | _ => none
def cLc (g : Iv) (vs : List Nat) (tg : Tg) (c : Tv) (elt : Ev) : Ev := fun env =>
  match g env with
  | some (.ok ds _) => if ds.length ≤ sizeLine then (lcGo tg c elt (wipeE env vs) ds).map fun l => .n (.lst l) else none
  | some (.x e) => some (.x e)
  | none => none
/-- nothing is let out -/
abbrev wN : WX := fun _ _ _ _ => False
theorem lcGo_len {tg : Tg} {c : Tv} {elt : Ev} {env : En} : ∀ {l out : List D}, lcGo tg c elt env l = some out → out.length ≤ l.length
  | [], out, h => by rw [← Option.some.inj h]; exact Nat.le_refl _
  | d :: r, out, h => by
    unfold lcGo at h
    split at h
    · cases h
    · split at h
      · split at h
        · cases e : lcGo tg c elt env r with
          | none => rw [e] at h; cases h
          | some o => rw [e] at h; rw [← Option.some.inj h]; exact Nat.succ_le_succ (lcGo_len e)
        · cases e : lcGo tg c elt env r with
          | none => rw [e] at h; cases h
          | some o => rw [e] at h; rw [← Option.some.inj h]; exact Nat.succ_le_succ (lcGo_len e)
        · cases h
      · exact Nat.le_succ_of_le (lcGo_len h)
      · cases h
section
variable {K : PySem.W.Frag} {env env' : En} {Hs H : Hp} {σ : Sg} {v : V} {d : D}
theorem FrE.wipe (F : FrE K env Hs σ H) : ∀ vs : List Nat, FrE K (wipeE env vs) Hs (L2.wipe σ vs) H
  | [] => F
  | v :: vs => by
    have G := FrE.wipe F vs
    refine ⟨G.sub, by unfold wipeE L2.wipe; rw [List.length_set, List.length_set]; exact G.len, fun j e h => ?_⟩
    unfold wipeE at h
    rcases getv_set h with ⟨rfl, hi, e2⟩ | ⟨hn, h2⟩
    · cases e2
    · obtain ⟨w, h3, h4⟩ := G.val j e h2
      refine ⟨w, ?_, h4⟩
      unfold L2.wipe
      rw [List.getElem?_set_ne (fun z => hn z.symm)]
      exact h3
theorem wipe_in {σ : Sg} {j : Nat} : ∀ {vs : List Nat}, j ∈ vs → (L2.wipe σ vs)[j]? = if j < σ.length then some none else none
  | v :: vs, h => by
    unfold L2.wipe
    by_cases e : v = j
    · subst e
      by_cases hl : v < (L2.wipe σ vs).length
      · rw [List.getElem?_set_self hl, if_pos (by rw [L2.wipe_length] at hl; exact hl)]
      · rw [List.getElem?_eq_none (by simpa using hl), if_neg (by rw [L2.wipe_length] at hl; exact hl)]
    · rw [List.getElem?_set_ne e]
      rcases List.mem_cons.mp h with z | z
      · exact absurd z.symm e
      · exact wipe_in z
theorem wipe_eq {σ σ2 : Sg} {vs : List Nat} {tg : Tg} (hl : σ2.length = σ.length) (hs : ∀ j ∈ tg.ix, j ∈ vs) (h : ∀ j, j ∉ tg.ix → σ2[j]? = (L2.wipe σ vs)[j]?) : L2.wipe σ2 vs = L2.wipe σ vs := by
  refine List.ext_getElem? fun j => ?_
  by_cases hj : j ∈ vs
  · rw [wipe_in hj, wipe_in hj, hl]
  · rw [L2.wipe_out hj, h j (fun z => hj (hs j z))]
end
section
variable {X : Cx} {W : WX} {elt tg iter : Expr} {f : Ev} {c : Tv} {g : Iv} {pos : Pos} {T : Tg} {ifs : List Expr} {scope : Scope} {own : List (Str × Nat)}
theorem pts_yes' {X : Cx} : PTs X [] (rdT X.K wN tYes') := ⟨fun pins s σ H Q I ⟨env, Hs, r, F, e, q⟩ => by
  have e2 := Option.some.inj e
  subst e2
  exact wpAny_tests_nil ⟨H, I, q Hs H (Ext.refl F.sub)⟩⟩
theorem pts_d {X : Cx} {t : Expr} (h : PTD X wN t c) : PTs X [t] (rdT X.K wN c) := pts_one h
theorem lc_red {K : PySem.W.Frag} {σ : Sg} {H : Hp} {Q : VK} {env : En} {Hs : Hp} {r : Rs} {vs : List Nat} (F : FrE K env Hs σ H) (e : cLc g vs T c f env = some r) (q : endE K (WE W σ) Hs H Q r) (hv : ∀ j ∈ T.ix, j ∈ vs) :
    tLc (rdI K W g) (gOf K T) (rdT K wN c) (rdE K wN f) vs σ H Q := by
  unfold cLc at e
  cases eg : g env with
  | none => rw [eg] at e; cases e
  | some u =>
    rw [eg] at e
    refine ⟨env, Hs, u, F, eg, ?_⟩
    cases u with
    | x e' =>
      have e2 : r = .x e' := (Option.some.inj e).symm
      subst e2
      exact q
    | ok ds fz =>
      dsimp only at e
      split at e
      case isFalse => cases e
      case isTrue hsz =>
        cases el : lcGo T c f (wipeE env vs) ds with
        | none => rw [el] at e; cases e
        | some total =>
          rw [el] at e
          have e2 := Option.some.inj e
          subst e2
          have htot := lcGo_len el
          intro J Hs1 H1 a1 w0 L hL
          have w := w0.up stay_sub
          have aL : Ext Hs H Hs1 (upd H1 L (.lst [])) := a1.laidN hL
          have nL : Hs1 L = none := a1.sub.free hL
          refine ⟨fun i m H2 => m = ds.length - i ∧ i ≤ ds.length ∧ ∃ Hs2 acc done out, Ext Hs1 H1 Hs2 H2 ∧ Hs2 L = none ∧ H2 L = some (.lst acc) ∧ Reps K Hs2 acc done ∧ lcGo T c f (wipeE env vs) (ds.drop i) = some out ∧ done ++ out = total,
            ⟨ds.length, rfl, Nat.zero_le _, Hs1, [], [], total, (Ext.refl a1.sub).laidN hL, nL, upd_same, .nil, el, rfl⟩, ?_⟩
          rintro i m H2 ⟨rfl, hi, Hs2, acc, done, out, a2, n2, h2, r2, e2, e3⟩
          have nH1 : H1 L = none := hL
          by_cases hlt : i < ds.length
          · right
            refine ⟨w.go i H2 hlt (a2.s.trans a2.sub), fun H3 => i + 1 ≤ ds.length ∧ ∃ Hs2 acc done out, Ext Hs1 H1 Hs2 H3 ∧ Hs2 L = none ∧ H3 L = some (.lst acc) ∧ Reps K Hs2 acc done ∧ lcGo T c f (wipeE env vs) (ds.drop (i + 1)) = some out ∧ done ++ out = total, fun H3 ⟨z1, z2⟩ => ⟨ds.length - (i + 1), by omega, rfl, z1, z2⟩, fun x H3 y => ?_⟩
            have hd : ds[i]? = some ds[i] := List.getElem?_eq_getElem hlt
            have hdrop : ds.drop i = ds[i] :: ds.drop (i + 1) := List.drop_eq_getElem_cons hlt
            obtain ⟨Hs3, a3, r3⟩ := w.yld i H2 Hs2 x H3 _ hd a2.s a2.sub y
            have n3 : Hs3 L = none := a3.new L n2 (by rw [h2]; simp)
            have h3 : H3 L = some (.lst acc) := a3.h _ _ h2
            have F3 : FrE K (wipeE env vs) Hs3 (L2.wipe σ vs) H3 := ((F.ext a1).ext (a2.trans a3)).wipe vs
            rw [hdrop] at e2
            unfold lcGo at e2
            cases et : T.set ds[i] (wipeE env vs) with
            | none => rw [et] at e2; cases e2
            | some env1 =>
              rw [et] at e2
              dsimp only at e2
              refine tg_frE F3 r3 et fun σ2 F4 hj => ⟨wipe_eq (by rw [← F4.len, Tg.set_len et, F3.len, L2.wipe_length]) hv hj, ?_⟩
              cases ec : c env1 with
              | none => rw [ec] at e2; cases e2
              | some rc =>
                rw [ec] at e2
                cases rc with
                | x e' => cases e2
                | ok b =>
                  refine ⟨env1, Hs3, _, F4, ec, fun Hs5 H5 a5 => ?_⟩
                  cases b with
                  | false =>
                    dsimp only at e2 ⊢
                    rw [if_neg Bool.false_ne_true]
                    exact ⟨hlt, Hs5, acc, done, out, (a2.trans a3).trans a5, a5.new L n3 (by rw [h3]; simp), a5.h _ _ h3, (r2.mono a3.s).mono a5.s, e2, e3⟩
                  | true =>
                    dsimp only at e2 ⊢
                    rw [if_pos rfl]
                    have fin : ∀ yd out', out = yd :: out' → lcGo T c f (wipeE env vs) (ds.drop (i + 1)) = some out' → ∀ yv Hs6 H6, Ext Hs5 H5 Hs6 H6 → Rep K Hs6 yv yd →
                        ∃ acc, H6 L = some (.lst acc) ∧ acc.length < sizeLine ∧ (i + 1 ≤ ds.length ∧ ∃ Hs2 acc' done out, Ext Hs1 H1 Hs2 (upd H6 L (.lst (acc ++ [yv]))) ∧ Hs2 L = none ∧ (upd H6 L (.lst (acc ++ [yv]))) L = some (.lst acc') ∧ Reps K Hs2 acc' done ∧ lcGo T c f (wipeE env vs) (ds.drop (i + 1)) = some out ∧ done ++ out = total) := by
                      intro yd out' eo eo2 yv Hs6 H6 a6 ry
                      have a7 := (a3.trans a5).trans a6
                      have n6 : Hs6 L = none := a7.new L n2 (by rw [h2]; simp)
                      have h6 : H6 L = some (.lst acc) := a7.h _ _ h2
                      refine ⟨acc, h6, ?_, hlt, Hs6, acc ++ [yv], done ++ [yd], out', (a2.trans a7).mut nH1 n6, n6, upd_same, (r2.mono a7.s).append (.cons ry .nil), eo2, ?_⟩
                      · have l1 := r2.length
                        have l2 : (done ++ out).length = total.length := congrArg List.length e3
                        rw [List.length_append, eo, List.length_cons] at l2
                        omega
                      · rw [← e3, eo, List.append_assoc] <;> rfl
                    cases ef : f env1 with
                    | none => rw [ef] at e2; cases e2
                    | some rf =>
                      rw [ef] at e2
                      cases rf with
                      | x e' => cases e2
                      | v yd =>
                        dsimp only at e2
                        cases er : lcGo T c f (wipeE env vs) (ds.drop (i + 1)) with
                        | none => rw [er] at e2; cases e2
                        | some out' =>
                          rw [er] at e2
                          have eo : out = yd :: out' := (Option.some.inj e2).symm
                          rw [← er]
                          exact ⟨env1, Hs5, _, F4.ext a5, ef, fun yv Hs6 H6 a6 ry => fin yd out' eo er yv Hs6 H6 a6 ry⟩
                      | n yd =>
                        dsimp only at e2
                        cases er : lcGo T c f (wipeE env vs) (ds.drop (i + 1)) with
                        | none => rw [er] at e2; cases e2
                        | some out' =>
                          rw [er] at e2
                          have eo : out = yd :: out' := (Option.some.inj e2).symm
                          rw [← er]
                          refine ⟨env1, Hs5, _, F4.ext a5, ef, fun yv Hs6 H6 a6 ry => ?_⟩
                          obtain ⟨Hs7, a7, ry7⟩ := ry.share a6
                          exact fin yd out' eo er yv Hs7 H6 a7 ry7
          · left
            have ei : i = ds.length := by omega
            subst ei
            refine ⟨w.stop H2 (a2.s.trans a2.sub), ?_⟩
            rw [List.drop_length] at e2
            have eo : out = [] := (Option.some.inj e2).symm
            subst eo
            rw [List.append_nil] at e3
            subst e3
            exact q _ Hs2 H2 (a1.trans a2) ⟨L, _, rfl, a1.h.free nH1, n2, h2, .lst r2⟩
theorem pd_lc (hc : X.calm = true) (hN : X.N.Nodup) (hi : PID X W tg iter g) (ok : BlkOk X.N X.env.scope scope own)
    (hg : ∀ (s : Shared) (H : Hp) (C : Addr) (cl : List (Str × Addr)) (fp : List Addr), PG (X.blk s H scope (compEnvC scope cl C X.env) fp) tg (gOf X.K T)) (ht : ∀ (s : Shared) (H : Hp) (C : Addr) (cl : List (Str × Addr)) (fp : List Addr), PTs (X.blk s H scope (compEnvC scope cl C X.env) fp) ifs (rdT X.K wN c))
    (he : ∀ (s : Shared) (H : Hp) (C : Addr) (cl : List (Str × Addr)) (fp : List Addr), PD (X.blk s H scope (compEnvC scope cl C X.env) fp) wN elt f) (hv : ∀ j ∈ T.ix, j ∈ own.map (·.2) := by decide) (hs : ∀ x, foldedSetIterable iter X.env x = pure x := by intro _; rfl) :
    PD X W (.ListComp elt [⟨tg, iter, ifs, 0⟩] scope pos) (cLc g (own.map (·.2)) T c f) :=
  pd_of (pe_lc hc hN hi ok hg ht he hs) fun σ H Q env Hs r F e q => lc_red F e q hv
end
end HD

set_option Elab.async false
set_option linter.all false
set_option maxRecDepth 100000
set_option maxHeartbeats 4000000
/-! HDf: frames with owned objects; statements. -/
namespace HD
open PySem PySem.Spec PyProof.Rows L2

/-! ### a frame -/
/-- H0s, H0: the entry's heaps -/
structure FrOk (K : PySem.W.Frag) (H0s H0 : Hp) (env : En) (Hs : Hp) (σ : Sg) (H : Hp) : Prop where
  ext : Ext H0s H0 Hs H
  len : env.length = σ.length
  sh : ∀ (i : Nat) (d : D), env[i]? = some (Slot.sh d) → ∃ v, σ[i]? = some (some v) ∧ Rep K Hs v d
  own : ∀ (i : Nat) (d : D), env[i]? = some (Slot.own d) → ∃ p o, σ[i]? = some (some (V.ref p)) ∧ H0 p = none ∧ Hs p = none ∧ H p = some o ∧ RepO K Hs o d
  sep : ∀ (i j : Nat) (d d' : D) (p : Addr), env[i]? = some (Slot.own d) → env[j]? = some (Slot.own d') → σ[i]? = some (some (V.ref p)) → σ[j]? = some (some (V.ref p)) → i = j
def maskS (b : Bool) : Slot → Slot
  | .own d => if b then .own d else .un
  | s => s
def maskGo (nm : List Nat) : Nat → En → En
  | _, [] => []
  | k, s :: r => maskS (nm.contains k) s :: maskGo nm (k + 1) r
def mask (nm : List Nat) (env : En) : En := maskGo nm 0 env
def frzS (b : Bool) : Slot → Slot
  | .own d => if b then .sh d else .own d
  | s => s
def frzGo (nm : List Nat) : Nat → En → En
  | _, [] => []
  | k, s :: r => frzS (nm.contains k) s :: frzGo nm (k + 1) r
def freeze (nm : List Nat) (env : En) : En := frzGo nm 0 env
theorem maskGo_get (nm : List Nat) : ∀ (k : Nat) (env : En) (i : Nat), (maskGo nm k env)[i]? = (env[i]?).map (maskS (nm.contains (k + i)))
  | _, [], i => by simp [maskGo]
  | k, s :: r, 0 => rfl
  | k, s :: r, i + 1 => by
    show (maskGo nm (k + 1) r)[i]? = _
    rw [maskGo_get nm (k + 1) r i, show k + 1 + i = k + (i + 1) by omega] <;> rfl
theorem frzGo_get (nm : List Nat) : ∀ (k : Nat) (env : En) (i : Nat), (frzGo nm k env)[i]? = (env[i]?).map (frzS (nm.contains (k + i)))
  | _, [], i => by simp [frzGo]
  | k, s :: r, 0 => rfl
  | k, s :: r, i + 1 => by
    show (frzGo nm (k + 1) r)[i]? = _
    rw [frzGo_get nm (k + 1) r i, show k + 1 + i = k + (i + 1) by omega] <;> rfl
theorem mask_get (nm : List Nat) (env : En) (i : Nat) : (mask nm env)[i]? = (env[i]?).map (maskS (nm.contains i)) := by
  unfold mask
  rw [maskGo_get, Nat.zero_add]
theorem freeze_get (nm : List Nat) (env : En) (i : Nat) : (freeze nm env)[i]? = (env[i]?).map (frzS (nm.contains i)) := by
  unfold freeze
  rw [frzGo_get, Nat.zero_add]
theorem maskGo_len (nm : List Nat) : ∀ (k : Nat) (env : En), (maskGo nm k env).length = env.length
  | _, [] => rfl
  | k, s :: r => congrArg (· + 1) (maskGo_len nm (k + 1) r)
theorem frzGo_len (nm : List Nat) : ∀ (k : Nat) (env : En), (frzGo nm k env).length = env.length
  | _, [] => rfl
  | k, s :: r => congrArg (· + 1) (frzGo_len nm (k + 1) r)
/-- p is owned by a slot of nm -/
def OwnM (nm : List Nat) (env : En) (σ : Sg) (p : Addr) : Prop := ∃ (i : Nat) (d : D), nm.contains i = true ∧ env[i]? = some (Slot.own d) ∧ σ[i]? = some (some (V.ref p))
open Classical in
/-- the frozen heap with what the slots of nm own -/
noncomputable def lift (nm : List Nat) (env : En) (σ : Sg) (Hs H : Hp) : Hp := fun a => if OwnM nm env σ a then H a else Hs a
open Classical in
noncomputable def cut (nm : List Nat) (env : En) (σ : Sg) (Hs : Hp) : Hp := fun a => if OwnM nm env σ a then none else Hs a
section
variable {K : PySem.W.Frag} {H0s H0 : Hp} {env env' : En} {Hs H Hs1 H1 : Hp} {σ : Sg} {nm : List Nat} {v : V} {d : D}
theorem FrOk.sub (F : FrOk K H0s H0 env Hs σ H) : Same Hs H := F.ext.sub
theorem FrOk.ownM (F : FrOk K H0s H0 env Hs σ H) {p : Addr} (h : OwnM nm env σ p) : H0 p = none ∧ Hs p = none ∧ ∃ o d, H p = some o ∧ RepO K Hs o d := by
  obtain ⟨i, d, hi, he, hs⟩ := h
  obtain ⟨q, o, e1, h0, hn, hp, r⟩ := F.own i d he
  rw [hs] at e1
  cases e1
  exact ⟨h0, hn, o, d, hp, r⟩
theorem lift_in {p : Addr} (h : OwnM nm env σ p) : lift nm env σ Hs H p = H p := if_pos h
theorem lift_out {p : Addr} (h : ¬ OwnM nm env σ p) : lift nm env σ Hs H p = Hs p := if_neg h
theorem cut_in {p : Addr} (h : OwnM nm env σ p) : cut nm env σ Hs p = none := if_pos h
theorem cut_out {p : Addr} (h : ¬ OwnM nm env σ p) : cut nm env σ Hs p = Hs p := if_neg h
theorem FrOk.lift_up (F : FrOk K H0s H0 env Hs σ H) (nm : List Nat) : Same Hs (lift nm env σ Hs H) := fun a o e => by
  by_cases h : OwnM nm env σ a
  · have := (F.ownM h).2.1
    rw [e] at this; cases this
  · rw [lift_out h]; exact e
theorem FrOk.lift_sub (F : FrOk K H0s H0 env Hs σ H) (nm : List Nat) : Same (lift nm env σ Hs H) H := fun a o e => by
  by_cases h : OwnM nm env σ a
  · rw [lift_in h] at e; exact e
  · rw [lift_out h] at e; exact F.sub a o e
theorem FrOk.ext_lift (F : FrOk K H0s H0 env Hs σ H) (nm : List Nat) : Ext H0s H0 (lift nm env σ Hs H) H :=
  ⟨F.ext.s.trans (F.lift_up nm), F.ext.h, F.lift_sub nm, fun a h1 h2 => by
    by_cases h : OwnM nm env σ a
    · exact absurd (F.ownM h).1 h2
    · rw [lift_out h]; exact F.ext.new a h1 h2⟩
theorem maskS_val {b : Bool} {s : Slot} {d : D} (h : (maskS b s).val = some d) : s = .sh d ∨ (s = .own d ∧ b = true) := by
  cases s with
  | un => cases h
  | sh e => exact .inl (by rw [Option.some.inj (show some e = some d from h)])
  | own e =>
    cases b with
    | true => exact .inr ⟨by rw [Option.some.inj (show some e = some d from h)], rfl⟩
    | false => cases h
/-- for an expression that reads the slots of nm -/
theorem FrOk.thaw (F : FrOk K H0s H0 env Hs σ H) (nm : List Nat) : FrE K (mask nm env) (lift nm env σ Hs H) σ H where
  sub := F.lift_sub nm
  len := by unfold mask; rw [maskGo_len]; exact F.len
  val := fun i d e => by
    unfold getv at e
    rw [mask_get] at e
    cases ei : env[i]? with
    | none => rw [ei] at e; cases e
    | some s =>
      rw [ei] at e
      rcases maskS_val (show (maskS (nm.contains i) s).val = some d from e) with rfl | ⟨rfl, hb⟩
      · obtain ⟨v, h1, h2⟩ := F.sh i d ei
        exact ⟨v, h1, h2.mono (F.lift_up nm)⟩
      · obtain ⟨p, o, h1, h2, h3, h4, h5⟩ := F.own i d ei
        refine ⟨_, h1, (h5.mono (F.lift_up nm)).rep ?_⟩
        rw [lift_in ⟨i, d, hb, ei, h1⟩]
        exact h4
mutual
theorem Rep.strip {Hs Hs' : Hp} (h : ∀ a xs, (Hs a = some (.tup xs) → Hs' a = some (.tup xs)) ∧ ∀ o, Hs a = some (.frz o (.tup xs)) → Hs' a = some (.frz o (.tup xs))) : ∀ {d : D} {v : V}, d.flat = true → Rep K Hs v d → Rep K Hs' v d
  | .non, _, _, r => by cases r; exact .non
  | .bl _, _, _, r => by cases r; exact .bl _
  | .int _, _, _, r => by cases r; exact .int _
  | .str _, _, _, r => by cases r; exact .str _
  | .tup l, _, e, r => by
    unfold D.flat at e
    cases r with
    | tup h1 r1 =>
      refine .tup ?_ (Reps.strip h e r1)
      rcases h1 with (z | ⟨o, z⟩) | z
      · exact .inl (.inl ((h _ _).1 z))
      · exact .inl (.inr ⟨o, (h _ _).2 o z⟩)
      · exact .inr z
  | .lst _, _, e, _ => by simp [D.flat] at e
  | .scr _, _, e, _ => by simp [D.flat] at e
  | .dic _, _, e, _ => by simp [D.flat] at e
  | .ins _ _, _, e, _ => by simp [D.flat] at e
  | .exn _ _, _, e, _ => by simp [D.flat] at e
theorem Reps.strip {Hs Hs' : Hp} (h : ∀ a xs, (Hs a = some (.tup xs) → Hs' a = some (.tup xs)) ∧ ∀ o, Hs a = some (.frz o (.tup xs)) → Hs' a = some (.frz o (.tup xs))) : ∀ {d : List D} {v : List V}, D.flats d = true → Reps K Hs v d → Reps K Hs' v d
  | [], _, _, r => by cases r; exact .nil
  | d :: ds, _, e, r => by
    unfold D.flats at e
    rw [Bool.and_eq_true] at e
    cases r with
    | cons h1 r1 => exact .cons (Rep.strip h e.1 h1) (Reps.strip h e.2 r1)
end
theorem RepO.strip {Hs Hs' : Hp} {o : HO} (h : ∀ a xs, (Hs a = some (.tup xs) → Hs' a = some (.tup xs)) ∧ ∀ o, Hs a = some (.frz o (.tup xs)) → Hs' a = some (.frz o (.tup xs))) (e : d.flatN = true) (r : RepO K Hs o d) : RepO K Hs' o d := by
  cases r with
  | lst r => exact .lst (Reps.strip h e r)
/-- behind an expression whose value is flat: the owned ones stay owned -/
theorem FrOk.keep (F : FrOk K H0s H0 env Hs σ H) (a : Ext (lift nm env σ Hs H) H Hs1 H1) : Same Hs (cut nm env σ Hs1) ∧ FrOk K H0s H0 env (cut nm env σ Hs1) σ H1 ∧
    (∀ b xs, (Hs1 b = some (.tup xs) → cut nm env σ Hs1 b = some (.tup xs)) ∧ ∀ o, Hs1 b = some (.frz o (.tup xs)) → cut nm env σ Hs1 b = some (.frz o (.tup xs))) := by
  have up : Same Hs (cut nm env σ Hs1) := fun b o e => by
    by_cases h : OwnM nm env σ b
    · have := (F.ownM h).2.1
      rw [e] at this; cases this
    · rw [cut_out h]
      exact a.s b o (F.lift_up nm b o e)
  have down : Same (cut nm env σ Hs1) H1 := fun b o e => by
    by_cases h : OwnM nm env σ b
    · rw [cut_in h] at e; cases e
    · rw [cut_out h] at e; exact a.sub b o e
  have nots : ∀ b, OwnM nm env σ b → (∀ xs, Hs1 b ≠ some (.tup xs)) ∧ ∀ o u, Hs1 b ≠ some (.frz o u) := fun b h => by
    obtain ⟨_, _, o, d, hb, r⟩ := F.ownM h
    have hb1 := a.h _ _ hb
    obtain ⟨n1, n2⟩ := r.notup
    refine ⟨fun xs e => ?_, fun o' u e => ?_⟩
    · have := a.sub _ _ e
      rw [hb1] at this
      exact n1 xs (Option.some.inj this)
    · have := a.sub _ _ e
      rw [hb1] at this
      exact n2 o' u (Option.some.inj this)
  refine ⟨up, ⟨⟨F.ext.s.trans up, F.ext.h.trans a.h, down, fun b h1 h2 => ?_⟩, F.len, fun i d e => ?_, fun i d e => ?_, F.sep⟩, fun b xs => ⟨fun e => ?_, fun o e => ?_⟩⟩
  · by_cases h : OwnM nm env σ b
    · exact cut_in h
    · rw [cut_out h]
      refine a.new b ?_ fun z => ?_
      · rw [lift_out h]; exact F.ext.new b h1 h2
      · exact h2 (F.ext.h.free z)
  · obtain ⟨v, h1, h2⟩ := F.sh i d e
    exact ⟨v, h1, h2.mono up⟩
  · obtain ⟨p, o, h1, h2, h3, h4, h5⟩ := F.own i d e
    refine ⟨p, o, h1, h2, ?_, a.h _ _ h4, h5.mono up⟩
    by_cases h : OwnM nm env σ p
    · exact cut_in h
    · rw [cut_out h]
      exact a.new p (by rw [lift_out h]; exact h3) (by rw [h4]; simp)
  · by_cases h : OwnM nm env σ b
    · exact absurd e ((nots b h).1 xs)
    · rw [cut_out h]; exact e
  · by_cases h : OwnM nm env σ b
    · exact absurd e ((nots b h).2 o _)
    · rw [cut_out h]; exact e
/-- behind an expression whose value isn't: what the slots of nm owned is frozen -/
theorem FrOk.frz (F : FrOk K H0s H0 env Hs σ H) (a : Ext (lift nm env σ Hs H) H Hs1 H1) : Same Hs Hs1 ∧ FrOk K H0s H0 (freeze nm env) Hs1 σ H1 := by
  have up : Same Hs Hs1 := (F.lift_up nm).trans a.s
  have ow : ∀ (i : Nat) (d : D), (freeze nm env)[i]? = some (Slot.own d) → env[i]? = some (Slot.own d) ∧ nm.contains i = false := fun i d e => by
    rw [freeze_get] at e
    cases ei : env[i]? with
    | none => rw [ei] at e; cases e
    | some s =>
      rw [ei] at e
      have e2 := Option.some.inj e
      cases s with
      | un => cases e2
      | sh x => cases e2
      | own x =>
        cases hb : nm.contains i with
        | true => rw [hb] at e2; cases e2
        | false => rw [hb] at e2; exact ⟨by rw [show x = d from Slot.own.inj e2], rfl⟩
  refine ⟨up, (F.ext_lift nm).trans a, by unfold freeze; rw [frzGo_len]; exact F.len, fun i d e => ?_, fun i d e => ?_, fun i j d d' p h1 h2 => F.sep i j d d' p (ow i d h1).1 (ow j d' h2).1⟩
  · rw [freeze_get] at e
    cases ei : env[i]? with
    | none => rw [ei] at e; cases e
    | some s =>
      rw [ei] at e
      have e2 := Option.some.inj e
      cases s with
      | un => cases e2
      | sh x =>
        have e3 : x = d := Slot.sh.inj e2
        subst e3
        obtain ⟨v, h1, h2⟩ := F.sh i x ei
        exact ⟨v, h1, h2.mono up⟩
      | own x =>
        cases hb : nm.contains i with
        | false => rw [hb] at e2; cases e2
        | true =>
          rw [hb] at e2
          have e3 : x = d := Slot.sh.inj e2
          subst e3
          obtain ⟨p, o, h1, h2, h3, h4, h5⟩ := F.own i x ei
          refine ⟨_, h1, (h5.mono up).rep (a.s _ _ ?_)⟩
          rw [lift_in ⟨i, x, hb, ei, h1⟩]
          exact h4
  · obtain ⟨e1, hb⟩ := ow i d e
    obtain ⟨p, o, h1, h2, h3, h4, h5⟩ := F.own i d e1
    refine ⟨p, o, h1, h2, ?_, a.h _ _ h4, h5.mono up⟩
    have hno : ¬ OwnM nm env σ p := fun ⟨j, d2, hj, ej, sj⟩ => by
      have := F.sep i j d d2 p e1 ej h1 sj
      subst this
      rw [hb] at hj; cases hj
    exact a.new p (by rw [lift_out hno]; exact h3) (by rw [h4]; simp)
/-- the heap grows -/
theorem FrOk.ext' (F : FrOk K H0s H0 env Hs σ H) (a : Ext Hs H Hs1 H1) : FrOk K H0s H0 env Hs1 σ H1 :=
  ⟨F.ext.trans a, F.len, fun i d e => let ⟨v, h1, h2⟩ := F.sh i d e; ⟨v, h1, h2.mono a.s⟩,
    fun i d e => let ⟨p, o, h1, h2, h3, h4, h5⟩ := F.own i d e; ⟨p, o, h1, h2, a.new p h3 (by rw [h4]; simp), a.h _ _ h4, h5.mono a.s⟩, F.sep⟩
theorem FrOk.set (F : FrOk K H0s H0 env Hs σ H) (r : Rep K Hs v d) (i : Nat) : FrOk K H0s H0 (env.set i (.sh d)) Hs (σ.set i (some v)) H := by
  have ow : ∀ (j : Nat) (e : D), (env.set i (.sh d))[j]? = some (Slot.own e) → j ≠ i ∧ env[j]? = some (Slot.own e) := fun j e h => by
    by_cases hj : i = j
    · subst hj
      by_cases hl : i < env.length
      · rw [List.getElem?_set_self hl] at h; cases h
      · rw [List.getElem?_eq_none (by simpa using hl)] at h; cases h
    · rw [List.getElem?_set_ne hj] at h
      exact ⟨fun z => hj z.symm, h⟩
  refine ⟨F.ext, by rw [List.length_set, List.length_set]; exact F.len, fun j e h => ?_, fun j e h => ?_, fun j k e e' p h1 h2 h3 h4 => ?_⟩
  · by_cases hj : i = j
    · subst hj
      by_cases hl : i < env.length
      · rw [List.getElem?_set_self hl] at h
        have e2 : d = e := Slot.sh.inj (Option.some.inj h)
        subst e2
        exact ⟨v, List.getElem?_set_self (by rw [← F.len]; exact hl), r⟩
      · rw [List.getElem?_eq_none (by simpa using hl)] at h; cases h
    · rw [List.getElem?_set_ne hj] at h
      obtain ⟨w, h1, h2⟩ := F.sh j e h
      exact ⟨w, by rw [List.getElem?_set_ne hj]; exact h1, h2⟩
  · obtain ⟨hj, h'⟩ := ow j e h
    obtain ⟨p, o, h1, h2⟩ := F.own j e h'
    exact ⟨p, o, by rw [List.getElem?_set_ne (Ne.symm hj)]; exact h1, h2⟩
  · obtain ⟨hj, h1'⟩ := ow j e h1
    obtain ⟨hk, h2'⟩ := ow k e' h2
    rw [List.getElem?_set_ne (Ne.symm hj)] at h3
    rw [List.getElem?_set_ne (Ne.symm hk)] at h4
    exact F.sep j k e e' p h1' h2' h3 h4
/-- a new object of one's own -/
theorem FrOk.setO {p : Addr} {o : HO} (F : FrOk K H0s H0 env Hs σ H) (h0 : H0 p = none) (hn : Hs p = none) (hp : H p = some o) (r : RepO K Hs o d) (hf : ∀ (j : Nat) (e : D), env[j]? = some (Slot.own e) → σ[j]? ≠ some (some (V.ref p))) (i : Nat) :
    FrOk K H0s H0 (env.set i (.own d)) Hs (σ.set i (some (.ref p))) H := by
  have ow : ∀ (j : Nat) (e : D), (env.set i (.own d))[j]? = some (Slot.own e) → (j = i ∧ i < env.length ∧ e = d) ∨ (j ≠ i ∧ env[j]? = some (Slot.own e)) := fun j e h => by
    by_cases hj : i = j
    · subst hj
      by_cases hl : i < env.length
      · rw [List.getElem?_set_self hl] at h
        exact .inl ⟨rfl, hl, (Slot.own.inj (Option.some.inj h)).symm⟩
      · rw [List.getElem?_eq_none (by simpa using hl)] at h; cases h
    · rw [List.getElem?_set_ne hj] at h
      exact .inr ⟨fun z => hj z.symm, h⟩
  refine ⟨F.ext, by rw [List.length_set, List.length_set]; exact F.len, fun j e h => ?_, fun j e h => ?_, fun j k e e' q h1 h2 h3 h4 => ?_⟩
  · by_cases hj : i = j
    · subst hj
      by_cases hl : i < env.length
      · rw [List.getElem?_set_self hl] at h; cases h
      · rw [List.getElem?_eq_none (by simpa using hl)] at h; cases h
    · rw [List.getElem?_set_ne hj] at h
      obtain ⟨w, h1, h2⟩ := F.sh j e h
      exact ⟨w, by rw [List.getElem?_set_ne hj]; exact h1, h2⟩
  · rcases ow j e h with ⟨rfl, hl, rfl⟩ | ⟨hj, h'⟩
    · exact ⟨p, o, List.getElem?_set_self (by rw [← F.len]; exact hl), h0, hn, hp, r⟩
    · obtain ⟨q, o', h1, h2⟩ := F.own j e h'
      exact ⟨q, o', by rw [List.getElem?_set_ne (Ne.symm hj)]; exact h1, h2⟩
  · rcases ow j e h1 with ⟨rfl, hl, rfl⟩ | ⟨hj, h1'⟩
    · rcases ow k e' h2 with ⟨rfl, hl2, rfl⟩ | ⟨hk, h2'⟩
      · rfl
      · rw [List.getElem?_set_self (by rw [← F.len]; exact hl)] at h3
        cases h3
        rw [List.getElem?_set_ne (Ne.symm hk)] at h4
        exact absurd h4 (hf k e' h2')
    · rcases ow k e' h2 with ⟨rfl, hl2, rfl⟩ | ⟨hk, h2'⟩
      · rw [List.getElem?_set_self (by rw [← F.len]; exact hl2)] at h4
        cases h4
        rw [List.getElem?_set_ne (Ne.symm hj)] at h3
        exact absurd h3 (hf j e h1')
      · rw [List.getElem?_set_ne (Ne.symm hj)] at h3
        rw [List.getElem?_set_ne (Ne.symm hk)] at h4
        exact F.sep j k e e' q h1' h2' h3 h4
/-- an owned object is changed -/
theorem FrOk.mut {p : Addr} {o' : HO} {d' : D} {i : Nat} (F : FrOk K H0s H0 env Hs σ H) (he : env[i]? = some (Slot.own d)) (hs : σ[i]? = some (some (V.ref p))) (r : RepO K Hs o' d') :
    FrOk K H0s H0 (env.set i (.own d')) Hs σ (upd H p o') := by
  obtain ⟨q, o, e1, h0, hn, hp, _⟩ := F.own i d he
  rw [hs] at e1
  cases e1
  have hl : i < env.length := (List.getElem?_eq_some_iff.mp he).1
  have ow : ∀ (j : Nat) (e : D), (env.set i (.own d'))[j]? = some (Slot.own e) → (j = i ∧ e = d') ∨ (j ≠ i ∧ env[j]? = some (Slot.own e)) := fun j e h => by
    by_cases hj : i = j
    · subst hj
      rw [List.getElem?_set_self hl] at h
      exact .inl ⟨rfl, (Slot.own.inj (Option.some.inj h)).symm⟩
    · rw [List.getElem?_set_ne hj] at h
      exact .inr ⟨fun z => hj z.symm, h⟩
  have any : ∀ (j : Nat) (e : D), (env.set i (.own d'))[j]? = some (Slot.own e) → ∃ e', env[j]? = some (Slot.own e') := fun j e h => by
    rcases ow j e h with ⟨rfl, _⟩ | ⟨_, h'⟩
    · exact ⟨d, he⟩
    · exact ⟨e, h'⟩
  refine ⟨F.ext.mut h0 hn, by rw [List.length_set]; exact F.len, fun j e h => ?_, fun j e h => ?_, fun j k e e' q h1 h2 h3 h4 => ?_⟩
  · by_cases hj : i = j
    · subst hj
      rw [List.getElem?_set_self hl] at h; cases h
    · rw [List.getElem?_set_ne hj] at h
      exact F.sh j e h
  · rcases ow j e h with ⟨rfl, rfl⟩ | ⟨hj, h'⟩
    · exact ⟨p, o', hs, h0, hn, upd_same, r⟩
    · obtain ⟨q, o2, h1, h2, h3, h4, h5⟩ := F.own j e h'
      refine ⟨q, o2, h1, h2, h3, ?_, h5⟩
      rw [upd_ne]
      · exact h4
      · intro z
        subst z
        exact hj (F.sep j i e d _ h' he h1 hs)
  · obtain ⟨e2, g1⟩ := any j e h1
    obtain ⟨e3, g2⟩ := any k e' h2
    exact F.sep j k e2 e3 q g1 g2 h3 h4
theorem gs_frOk : ∀ (is : List Nat) (ds : List D) (vs : List V) (env env' : En) (σ : Sg) (Q : Sg → Hp → Prop), FrOk K H0s H0 env Hs σ H → Reps K Hs vs ds → setAll is ds env = some env' →
    (∀ σ', FrOk K H0s H0 env' Hs σ' H → Q σ' H) → gsOf is vs σ H Q
  | [], ds, vs, env, env', σ, Q, F, r, e, k => by
    cases ds with
    | nil =>
      cases r
      have e2 := Option.some.inj e
      subst e2
      exact ⟨rfl, k σ F⟩
    | cons d ds => cases e
  | i :: is, ds, vs, env, env', σ, Q, F, r, e, k => by
    cases ds with
    | nil => cases e
    | cons d ds =>
      cases r with
      | cons h r => exact ⟨_, _, rfl, gs_frOk is ds _ _ env' _ Q (F.set h i) r e k⟩
theorem tg_frOk {tg : Tg} {Q : Sg → Hp → Prop} (F : FrOk K H0s H0 env Hs σ H) (r : Rep K Hs v d) (e : tg.set d env = some env') (k : ∀ σ', FrOk K H0s H0 env' Hs σ' H → Q σ' H) : gOf K tg v σ H Q := by
  unfold Tg.set at e
  split at e
  · have e2 := Option.some.inj e
    subst e2
    exact k _ (F.set r _)
  · cases r with
    | tup h r => exact ⟨_, _, rfl, same_sqt F.sub h, by rw [r.length]; exact (setAll_len _ _ _ _ e).symm, gs_frOk _ _ _ _ _ _ _ F r e k⟩
  · cases e
end

/-! ### statements -/
inductive Out | nx (env : En) | rt (u : Vn) | bk (env : En) | ct (env : En) | x (e : D) (env : En)
abbrev Sm := En → Option Out
def endS (K : PySem.W.Frag) (W : WX) (H0s H0 Hs : Hp) (D : Ends) : Out → Prop
  | .nx env' => ∀ Hs' σ' H', Same Hs Hs' → FrOk K H0s H0 env' Hs' σ' H' → D.nx σ' H'
  | .bk env' => ∀ Hs' σ' H', Same Hs Hs' → FrOk K H0s H0 env' Hs' σ' H' → D.bk σ' H'
  | .ct env' => ∀ Hs' σ' H', Same Hs Hs' → FrOk K H0s H0 env' Hs' σ' H' → D.ct σ' H'
  | .rt u => endV K H0s H0 D.rt u
  | .x e env' => ∀ cls dd Hs' σ' H', Same Hs Hs' → FrOk K H0s H0 env' Hs' σ' H' → RepX K Hs' H' e cls dd → W cls dd σ' H'
def rdS (K : PySem.W.Frag) (W : WX) (F : Sm) : TS := fun D σ H => ∃ H0s H0 env Hs o, FrOk K H0s H0 env Hs σ H ∧ F env = some o ∧ endS K W H0s H0 Hs D o
abbrev PSD (X : Cx) (W : WX) (st : Stmt) (F : Sm) : Prop := PS X st (rdS X.K W F)
abbrev PSsD (X : Cx) (W : WX) (st : List Stmt) (F : Sm) : Prop := PSs X st (rdS X.K W F)
def D.flatX : D → Bool
  | .exn _ gs => gs.all fun p => p.2.flat
  | _ => false
/-- an expression of a statement; nm: the slots that it reads -/
def evx (nm : List Nat) (f : Ev) (env : En) (k : Vn → En → Option Out) : Option Out :=
  match f (mask nm env) with
  | none => none
  | some (.x e) => if e.flatX then some (.x e env) else none
  | some (.v d) => if d.flat then k (.v d) env else k (.v d) (freeze nm env)
  | some (.n d) => if d.flatN then k (.n d) env else k (.n d) (freeze nm env)
/-- what a statement gets of it -/
def Got (K : PySem.W.Frag) (H0 : Hp) (env : En) (Hs : Hp) (σ : Sg) (H : Hp) (v : V) : Vn → Prop
  | .v d => Rep K Hs v d
  | .n d => ∃ p o, v = .ref p ∧ H0 p = none ∧ Hs p = none ∧ H p = some o ∧ RepO K Hs o d ∧ ∀ (j : Nat) (e : D), env[j]? = some (Slot.own e) → σ[j]? ≠ some (some (V.ref p))
section
variable {K : PySem.W.Frag} {W : WX} {H0s H0 : Hp} {env env' : En} {Hs H Hs1 H1 : Hp} {σ : Sg} {nm : List Nat} {v : V} {d : D} {D' : Ends} {o : Out} {f : Ev} {Q : VK}
theorem endS.up (s : Same Hs Hs1) (h : endS K W H0s H0 Hs D' o) : endS K W H0s H0 Hs1 D' o := by
  cases o with
  | nx e => exact fun Hs' σ' H' z => h Hs' σ' H' (s.trans z)
  | bk e => exact fun Hs' σ' H' z => h Hs' σ' H' (s.trans z)
  | ct e => exact fun Hs' σ' H' z => h Hs' σ' H' (s.trans z)
  | rt u => exact h
  | x e env' => exact fun c dd Hs' σ' H' z => h c dd Hs' σ' H' (s.trans z)
theorem RepF.strip {Hs Hs' : Hp} (h : ∀ a xs, (Hs a = some (.tup xs) → Hs' a = some (.tup xs)) ∧ ∀ o, Hs a = some (.frz o (.tup xs)) → Hs' a = some (.frz o (.tup xs))) : ∀ {gs : List (Str × D)} {fs : List (Str × V)}, (gs.all fun p => p.2.flat) = true → RepF K Hs fs gs → RepF K Hs' fs gs
  | [], _, _, r => by cases r; exact .nil
  | (f, d) :: gs, _, e, r => by
    rw [List.all_cons, Bool.and_eq_true] at e
    cases r with
    | cons h1 r1 => exact .cons (h1.strip h e.1) (RepF.strip h e.2 r1)
theorem RepX.strip {Hs Hs' : Hp} {e : D} {c : Value} {dd : Option Addr} (h : ∀ a xs, (Hs a = some (.tup xs) → Hs' a = some (.tup xs)) ∧ ∀ o, Hs a = some (.frz o (.tup xs)) → Hs' a = some (.frz o (.tup xs))) (x : e.flatX = true) (r : RepX K Hs H e c dd) : RepX K Hs' H e c dd := by
  obtain ⟨C, gs, rfl, rfl, r⟩ := r
  refine ⟨C, gs, rfl, rfl, ?_⟩
  rcases r with r | ⟨a, fs, e1, e2, r⟩
  · exact .inl r
  · exact .inr ⟨a, fs, e1, e2, r.strip h x⟩
theorem evx_ok {k : Vn → En → Option Out} (F : FrOk K H0s H0 env Hs σ H) (e : evx nm f env k = some o) (q : endS K W H0s H0 Hs D' o)
    (hk : ∀ v u env1 Hs1 H1, Same Hs Hs1 → FrOk K H0s H0 env1 Hs1 σ H1 → Got K H0 env1 Hs1 σ H1 v u → k u env1 = some o → endS K W H0s H0 Hs1 D' o → Q v H1) : rdE K W f σ H Q := by
  unfold evx at e
  cases ef : f (mask nm env) with
  | none => rw [ef] at e; cases e
  | some r =>
    rw [ef] at e
    refine ⟨mask nm env, _, r, F.thaw nm, ef, ?_⟩
    cases r with
    | x ex =>
      dsimp only at e
      split at e
      case isFalse => cases e
      case isTrue hx =>
        have e2 := Option.some.inj e
        subst e2
        intro cls dd Hs1 H1 a rx
        obtain ⟨s1, F1, st⟩ := F.keep a
        exact q cls dd _ σ H1 s1 F1 (rx.strip st hx)
    | v d =>
      dsimp only at e
      intro v Hs1 H1 a rv
      split at e
      · obtain ⟨s1, F1, st⟩ := F.keep a
        exact hk v (.v d) _ _ H1 s1 F1 (rv.strip st (by assumption)) e (q.up s1)
      · obtain ⟨s1, F1⟩ := F.frz a
        exact hk v (.v d) _ _ H1 s1 F1 rv e (q.up s1)
    | n d =>
      dsimp only at e
      intro v Hs1 H1 a rv
      obtain ⟨p, ob, rfl, hp, hn, he, ro⟩ := rv
      have h0 : H0 p = none := F.ext.h.free hp
      have nob : ∀ (j : Nat) (e : D), env[j]? = some (Slot.own e) → σ[j]? ≠ some (some (V.ref p)) := fun j e hj hs => by
        obtain ⟨p2, o2, g1, _, _, g4, _⟩ := F.own j e hj
        rw [hs] at g1
        cases g1
        rw [hp] at g4; cases g4
      split at e
      · obtain ⟨s1, F1, st⟩ := F.keep a
        refine hk _ (.n d) _ _ H1 s1 F1 ⟨p, ob, rfl, h0, ?_, he, ro.strip st (by assumption), nob⟩ e (q.up s1)
        by_cases hc : OwnM nm env σ p
        · exact cut_in hc
        · rw [cut_out hc]; exact hn
      · obtain ⟨s1, F1⟩ := F.frz a
        refine hk _ (.n d) _ _ H1 s1 F1 ⟨p, ob, rfl, h0, hn, he, ro, fun j e hj hs => ?_⟩ e (q.up s1)
        rw [freeze_get] at hj
        cases ej : env[j]? with
        | none => rw [ej] at hj; cases hj
        | some s =>
          rw [ej] at hj
          cases s with
          | un => cases hj
          | sh _ => cases hj
          | own z => exact nob j z ej hs
/-- as a shared value -/
theorem Got.share {u : Vn} (F : FrOk K H0s H0 env Hs σ H) (g : Got K H0 env Hs σ H v u) : ∃ Hs2, Same Hs Hs2 ∧ FrOk K H0s H0 env Hs2 σ H ∧ Rep K Hs2 v u.d := by
  cases u with
  | v d => exact ⟨Hs, Same.refl _, F, g⟩
  | n d =>
    obtain ⟨p, ob, rfl, h0, hn, he, ro, nob⟩ := g
    refine ⟨upd Hs p ob, same_upd hn, ⟨F.ext.freeze h0 hn he, F.len, fun i d e => ?_, fun i d e => ?_, F.sep⟩, (ro.mono (same_upd hn)).rep upd_same⟩
    · obtain ⟨v, h1, h2⟩ := F.sh i d e
      exact ⟨v, h1, h2.mono (same_upd hn)⟩
    · obtain ⟨q, o, h1, h2, h3, h4, h5⟩ := F.own i d e
      refine ⟨q, o, h1, h2, ?_, h4, h5.mono (same_upd hn)⟩
      rw [upd_ne (fun z => nob i d e (by rw [h1, z]))]
      exact h3
end
end HD

set_option Elab.async false
set_option linter.all false
set_option maxRecDepth 100000
set_option maxHeartbeats 4000000
/-! HDg: statements; a def by its function. -/
namespace HD
open PySem PySem.Spec PyProof.Rows L2
def Vn.slot : Vn → Slot | .v d => .sh d | .n d => .own d
def cNil : Sm := fun env => some (.nx env)
def cSeq (F G : Sm) : Sm := fun env =>
  match F env with
  | some (.nx e) => G e
  | o => o
def cSet (i : Nat) (nm : List Nat) (f : Ev) : Sm := fun env => evx nm f env fun u env1 => some (.nx (env1.set i u.slot))
def cSetT (is : List Nat) (nm : List Nat) (f : Ev) : Sm := fun env => evx nm f env fun u env1 => match u with
  | .v d => ((Tg.tu is).set d env1).map .nx
  | _ => none
def cRet (nm : List Nat) (f : Ev) : Sm := fun env => match f (mask nm env) with
  | none => none
  | some (.x e) => if e.flatX then some (.x e env) else none
  | some (.v d) => some (.rt (.v d))
  | some (.n d) => some (.rt (.n d))
def cRetV (i : Nat) : Sm := fun env => match env[i]? with
  | some (.sh d) => some (.rt (.v d))
  | some (.own d) => some (.rt (.n d))
  | _ => none
def cRetN : Sm := fun _ => some (.rt (.v .non))
def cExpr (nm : List Nat) (f : Ev) : Sm := fun env => evx nm f env fun _ env1 => some (.nx env1)
def cIf (nm : List Nat) (c : Tv) (F G : Sm) : Sm := fun env => match c (mask nm env) with
  | none => none
  | some (.x e) => if e.flatX then some (.x e env) else none
  | some (.ok true) => F env
  | some (.ok false) => G env
def cPar (i j : Nat) (nm : List Nat) (f g : Ev) : Sm := fun env => match evs [f, g] (mask nm env) with
  | some (.ok [d, e]) => if d.flat && e.flat then some (.nx ((env.set i (.sh d)).set j (.sh e))) else some (.nx (((freeze nm env).set i (.sh d)).set j (.sh e)))
  | some (.x e) => if e.flatX then some (.x e env) else none
  | _ => none
def cNever : Sm := fun _ => none
section
variable {X : Cx} {W : WX} {K : PySem.W.Frag} {H0s H0 : Hp} {env env' : En} {Hs H Hs1 H1 : Hp} {σ : Sg} {nm : List Nat} {v : V} {d : D} {D' : Ends} {o : Out} {f g : Ev} {Q : VK}
  {st : Stmt} {sts : List Stmt} {F G : Sm} {i j : Nat} {x y : Str} {a b : Expr} {pos pos' : Pos} {c : Tv}
theorem psd_never : PSD X W st cNever := PS.weak ps_never fun D σ H ⟨_, _, _, _, _, _, e, _⟩ => by cases e
theorem pssd_nil : PSsD X W [] cNil := PSs.weak pss_nil fun D σ H ⟨H0s, H0, env, Hs, o, Fr, e, q⟩ => by
  have e2 := Option.some.inj e
  subst e2
  exact q Hs σ H (Same.refl _) Fr
theorem seq_rd (h : rdS K W (cSeq F G) D' σ H) : rdS K W F { D' with nx := rdS K W G D' } σ H := by
  obtain ⟨H0s, H0, env, Hs, o, Fr, e, q⟩ := h
  unfold cSeq at e
  split at e
  · rename_i e1 ef
    exact ⟨H0s, H0, env, Hs, _, Fr, ef, fun Hs' σ' H' s Fr' => ⟨H0s, H0, e1, Hs', o, Fr', e, q.up s⟩⟩
  · rename_i hn
    refine ⟨H0s, H0, env, Hs, o, Fr, e, ?_⟩
    cases o with
    | nx e1 => exact absurd e (hn e1)
    | bk e1 => exact q
    | ct e1 => exact q
    | rt u => exact q
    | x ex e1 => exact q
theorem pssd_cons (h1 : PSD X W st F) (h2 : PSsD X W sts G) : PSsD X W (st :: sts) (cSeq F G) := PSs.weak (pss_cons h1 h2) fun D σ H h => seq_rd h
theorem pssd_one (h : PSD X W st F) : PSsD X W [st] F := pss_one h
theorem FrOk.setU {u : Vn} (Fr : FrOk K H0s H0 env Hs σ H) (g : Got K H0 env Hs σ H v u) (i : Nat) : FrOk K H0s H0 (env.set i u.slot) Hs (σ.set i (some v)) H := by
  cases u with
  | v d => exact Fr.set g i
  | n d =>
    obtain ⟨p, ob, rfl, h0, hn, he, ro, nob⟩ := g
    exact Fr.setO h0 hn he ro nob i
theorem set_rd (h : rdS K W (cSet i nm f) D' σ H) : tAsg (rdE K W f) (gName i) D' σ H := by
  obtain ⟨H0s, H0, env, Hs, o, Fr, e, q⟩ := h
  refine evx_ok Fr e q fun v u env1 Hs1 H1 s1 F1 gt e1 q1 => ?_
  have e2 := Option.some.inj e1
  subst e2
  exact q1 Hs1 _ H1 (Same.refl _) (F1.setU gt i)
theorem psd_set (hN : X.N.Nodup) (hi : X.N[i]? = some x) (hx : Loc X.env.scope x) (he : PD X W a f) (hs : swapsWith a (some (.Name x pos')) pos.line X.env = pure false := by rfl) (hf : X.fn x = true ∨ X.env.scope.names.lookup x = some .local := by first | exact .inl rfl | exact .inr rfl | assumption) :
    PSD X W (.Assign [.Name x pos'] a pos) (cSet i nm f) := PS.weak (ps_set hN hi hx he hs hf) fun D σ H h => set_rd h
/-- name = [..] on one line -/
theorem psd_setLc {elt tg iter : Expr} {ifs : List Expr} {scope : Scope} {own : List (Str × Nat)} {py spos : Pos} {T : Tg} {it : Iv} (hc : X.calm = true) (hN : X.N.Nodup) (hy : X.N[i]? = some y) (hyl : X.env.scope.names.lookup y = some .local)
    (hsw : swapsWith (.ListComp elt [⟨tg, iter, ifs, 0⟩] scope pos) (some (.Name y py)) spos.line X.env = pure true) (hi : PID X W tg iter it) (ok : BlkOk X.N X.env.scope scope own)
    (hg : ∀ (s : Shared) (H : Hp) (C : Addr) (cl : List (Str × Addr)) (fp : List Addr), PG (X.blk s H scope (compEnvC scope cl C X.env) fp) tg (gOf X.K T)) (ht : ∀ (s : Shared) (H : Hp) (C : Addr) (cl : List (Str × Addr)) (fp : List Addr), PTs (X.blk s H scope (compEnvC scope cl C X.env) fp) ifs (rdT X.K wN c))
    (he : ∀ (s : Shared) (H : Hp) (C : Addr) (cl : List (Str × Addr)) (fp : List Addr), PD (X.blk s H scope (compEnvC scope cl C X.env) fp) wN elt f) (hv : ∀ j ∈ T.ix, j ∈ own.map (·.2) := by decide) (hs : ∀ x, foldedSetIterable iter X.env x = pure x := by intro _; rfl) :
    PSD X W (.Assign [.Name y py] (.ListComp elt [⟨tg, iter, ifs, 0⟩] scope pos) spos) (cSet i nm (cLc it (own.map (·.2)) T c f)) :=
  PS.weak (ps_setLc hc hN hy hyl hsw hi ok hg ht he hs) fun D σ H h => by
    obtain ⟨env, Hs, r, F, e, q⟩ : tAsg (rdE X.K W (cLc it (own.map (·.2)) T c f)) (gName i) D σ H := set_rd h
    exact lc_red F e q hv
/-- a, b, .. = e -/
theorem psd_setT {is : List Nat} {tg : Expr} (hg : PG X tg (gOf X.K (.tu is))) (he : PD X W a f) (hs : swapsWithSole [tg] a pos.line X.env = pure false := by rfl) (hw : swappedStores [tg] a X.env = pure none := by rfl)
    (h1 : (assignEach [tg] X.env).map (·.2) = [assign tg X.env] := by rfl) : PSD X W (.Assign [tg] a pos) (cSetT is nm f) := PS.weak (ps_asg he hg hs hw h1) fun D σ H ⟨H0s, H0, env, Hs, o, Fr, e, q⟩ => by
  refine evx_ok Fr e q fun v u env1 Hs1 H1 s1 F1 gt e1 q1 => ?_
  cases u with
  | n d => cases e1
  | v d =>
    dsimp only at e1
    cases et : (Tg.tu is).set d env1 with
    | none => rw [et] at e1; cases e1
    | some env2 =>
      rw [et] at e1
      have e2 := Option.some.inj e1
      subst e2
      exact tg_frOk F1 gt et fun σ' F2 => q1 Hs1 σ' H1 (Same.refl _) F2
theorem psd_ret (he : PD X W a f) : PSD X W (.Return (some a) pos) (cRet nm f) := PS.weak (ps_ret he) fun D σ H ⟨H0s, H0, env, Hs, o, Fr, e, q⟩ => by
  unfold cRet at e
  cases ef : f (mask nm env) with
  | none => rw [ef] at e; cases e
  | some r =>
    rw [ef] at e
    refine ⟨mask nm env, _, r, Fr.thaw nm, ef, ?_⟩
    cases r with
    | x ex =>
      dsimp only at e
      split at e
      case isFalse => cases e
      case isTrue hx =>
        have e2 := Option.some.inj e
        subst e2
        intro cls dd Hs1 H1 a rx
        obtain ⟨s1, F1, st⟩ := Fr.keep a
        exact q cls dd _ σ H1 s1 F1 (rx.strip st hx)
    | v d =>
      have e2 := Option.some.inj e
      subst e2
      intro v Hs1 H1 a rv
      exact q v Hs1 H1 ((Fr.ext_lift nm).trans a) rv
    | n d =>
      have e2 := Option.some.inj e
      subst e2
      intro v Hs1 H1 a rv
      exact q v Hs1 H1 ((Fr.ext_lift nm).trans a) (rv.of Fr.ext.h)
/-- return of a name -/
theorem psd_retV (i : Nat) {p : Pos} (hN : X.N[i]? = some x := by rfl) (hv : Vis X.env.scope x := by first | exact Or.inl rfl | exact Or.inr (Or.inl rfl) | exact Or.inr (Or.inr rfl)) (hd : (x == ("__debug__" : Str)) = false := by decide)
    (hcd : (x == ("__classdict__" : Str)) = false := by decide) : PSD X W (.Return (some (.Name x p)) pos) (cRetV i) := PS.weak (ps_ret (pe_var hN hv hd hcd)) fun D σ H ⟨H0s, H0, env, Hs, o, Fr, e, q⟩ => by
  unfold cRetV at e
  split at e
  · rename_i d ei
    have e2 := Option.some.inj e
    subst e2
    obtain ⟨v, h1, h2⟩ := Fr.sh i d ei
    exact ⟨v, h1, q v Hs H Fr.ext h2⟩
  · rename_i d ei
    have e2 := Option.some.inj e
    subst e2
    obtain ⟨p, ob, h1, h2, h3, h4, h5⟩ := Fr.own i d ei
    exact ⟨_, h1, q _ Hs H Fr.ext ⟨p, ob, rfl, h2, h3, h4, h5⟩⟩
  · cases e
theorem psd_retN : PSD X W (.Return none pos) cRetN := PS.weak ps_retN fun D σ H ⟨H0s, H0, env, Hs, o, Fr, e, q⟩ => by
  have e2 := Option.some.inj e
  subst e2
  exact q _ Hs H Fr.ext .non
theorem psd_expr (he : PD X W a f) (hs : swapsWith a none pos.line X.env = pure false := by rfl) : PSD X W (.Expr a pos) (cExpr nm f) := PS.weak (ps_expr he hs) fun D σ H ⟨H0s, H0, env, Hs, o, Fr, e, q⟩ =>
  evx_ok Fr e q fun v u env1 Hs1 H1 s1 F1 gt e1 q1 => by
    have e2 := Option.some.inj e1
    subst e2
    exact q1 Hs1 σ H1 (Same.refl _) F1
theorem psd_doc {z j} : PSD X W (.Expr (.Constant (.str z) j pos) pos') cNil := PS.weak ps_doc fun D σ H ⟨H0s, H0, env, Hs, o, Fr, e, q⟩ => by
  have e2 := Option.some.inj e
  subst e2
  exact q Hs σ H (Same.refl _) Fr
theorem psd_pass : PSD X W (.Pass pos) cNil := PS.weak ps_pass fun D σ H ⟨H0s, H0, env, Hs, o, Fr, e, q⟩ => by
  have e2 := Option.some.inj e
  subst e2
  exact q Hs σ H (Same.refl _) Fr
/-- a test of a statement -/
theorem test_rd {r : Rt} {Q : Bool → Hp → Prop} (Fr : FrOk K H0s H0 env Hs σ H) (ec : c (mask nm env) = some r)
    (hx : ∀ ex, r = .x ex → ex.flatX = true ∧ ∀ cls dd Hs' σ' H', Same Hs Hs' → FrOk K H0s H0 env Hs' σ' H' → RepX K Hs' H' ex cls dd → W cls dd σ' H')
    (hb : ∀ b Hs1 H1, r = .ok b → Same Hs Hs1 → FrOk K H0s H0 env Hs1 σ H1 → Q b H1) : rdT K W c σ H Q := by
  refine ⟨mask nm env, _, r, Fr.thaw nm, ec, ?_⟩
  cases r with
  | ok b =>
    intro Hs1 H1 a
    obtain ⟨s1, F1, _⟩ := Fr.keep a
    exact hb b _ H1 rfl s1 F1
  | x ex =>
    obtain ⟨h1, h2⟩ := hx ex rfl
    intro cls dd Hs1 H1 a rx
    obtain ⟨s1, F1, st⟩ := Fr.keep a
    exact h2 cls dd _ σ H1 s1 F1 (rx.strip st h1)
theorem psd_if {t : Expr} {sa sb : List Stmt} (hc : PTD X W t c) (ha : PSsD X W sa F) (hb : PSsD X W sb G) : PSD X W (.If t sa sb pos) (cIf nm c F G) := PS.weak (ps_if hc ha hb) fun D σ H ⟨H0s, H0, env, Hs, o, Fr, e, q⟩ => by
  unfold cIf at e
  cases ec : c (mask nm env) with
  | none => rw [ec] at e; cases e
  | some r =>
    rw [ec] at e
    refine test_rd Fr ec (fun ex hr => ?_) (fun b Hs1 H1 hr s1 F1 => ?_)
    · subst hr
      dsimp only at e
      split at e
      case isFalse => cases e
      case isTrue hx =>
        have e2 := Option.some.inj e
        subst e2
        exact ⟨hx, q⟩
    · subst hr
      cases b with
      | true =>
        dsimp only at e ⊢
        rw [if_pos rfl]
        exact ⟨H0s, H0, env, Hs1, o, F1, e, q.up s1⟩
      | false =>
        dsimp only at e ⊢
        rw [if_neg Bool.false_ne_true]
        exact ⟨H0s, H0, env, Hs1, o, F1, e, q.up s1⟩
/-- a, b = x, y -/
theorem psd_par {px py pt : Pos} {kt k2 pt2} (hc : X.calm = true) (hN : X.N.Nodup) (hi : X.N[i]? = some x) (hj : X.N[j]? = some y) (hij : i ≠ j)
    (hx : X.env.scope.names.lookup x = some .local) (hy : X.env.scope.names.lookup y = some .local) (ha : PAD X W [a, b] [f, g])
    (hw : swappedStores [.Tuple [.Name x px, .Name y py] kt pt] (.Tuple [a, b] k2 pt2) X.env = pure (some [x, y]))
    (hs : swapsWithSole [.Tuple [.Name x px, .Name y py] kt pt] (.Tuple [a, b] k2 pt2) pos.line X.env = pure false := by rfl) :
    PSD X W (.Assign [.Tuple [.Name x px, .Name y py] kt pt] (.Tuple [a, b] k2 pt2) pos) (cPar i j nm f g) := PS.weak (ps_par hc hN hi hj hij hx hy ha hw hs) fun D σ H ⟨H0s, H0, env, Hs, o, Fr, e, q⟩ => by
  unfold cPar at e
  split at e
  · rename_i d1 d2 ee
    refine ⟨mask nm env, _, _, Fr.thaw nm, ee, fun vs Hs1 H1 a rv => ?_⟩
    obtain ⟨v, w, rfl, r1, r2⟩ := reps2 rv
    split at e
    · rename_i hf
      rw [Bool.and_eq_true] at hf
      have e2 := Option.some.inj e
      subst e2
      obtain ⟨s1, F1, st⟩ := Fr.keep a
      exact ⟨v, w, rfl, q _ _ H1 s1 ((F1.set (r1.strip st hf.1) i).set (r2.strip st hf.2) j)⟩
    · have e2 := Option.some.inj e
      subst e2
      obtain ⟨s1, F1⟩ := Fr.frz a
      exact ⟨v, w, rfl, q _ _ H1 s1 ((F1.set r1 i).set r2 j)⟩
  · rename_i ex ee
    split at e
    case isFalse => cases e
    case isTrue hx =>
      have e2 := Option.some.inj e
      subst e2
      refine ⟨mask nm env, _, _, Fr.thaw nm, ee, fun cls dd Hs1 H1 a rx => ?_⟩
      obtain ⟨s1, F1, st⟩ := Fr.keep a
      exact q cls dd _ σ H1 s1 F1 (rx.strip st hx)
  · cases e
end

/-! ### loops -/
def forGo (tg : Tg) (body : Sm) : En → List D → Option Out
  | env, [] => some (.nx env)
  | env, d :: r => match tg.set d env with
    | none => none
    | some e1 => match body e1 with
      | some (.nx e2) => forGo tg body e2 r
      | some (.ct e2) => forGo tg body e2 r
      | some (.bk e2) => some (.nx e2)
      | o => o
def cFor (nm : List Nat) (g : Iv) (tg : Tg) (body : Sm) : Sm := fun env => match g (mask nm env) with
  | none => none
  | some (.x e) => if e.flatX then some (.x e env) else none
  | some (.ok ds true) => forGo tg body (freeze nm env) ds
  | some (.ok ds false) => forGo tg body env ds
def whGo (nm : List Nat) (c : Tv) (body : Sm) : Nat → En → Option Out
  | 0, _ => none
  | n + 1, env => match c (mask nm env) with
    | none => none
    | some (.x e) => if e.flatX then some (.x e env) else none
    | some (.ok false) => some (.nx env)
    | some (.ok true) => match body env with
      | some (.nx e2) => whGo nm c body n e2
      | some (.ct e2) => whGo nm c body n e2
      | some (.bk e2) => some (.nx e2)
      | o => o
open Classical in
noncomputable def cWhile (nm : List Nat) (c : Tv) (body : Sm) : Sm := fun env => if h : ∃ n o, whGo nm c body n env = some o then some (Classical.choose (Classical.choose_spec h)) else none
theorem whGo_up {nm : List Nat} {c : Tv} {body : Sm} : ∀ {n : Nat} {env : En} {o : Out}, whGo nm c body n env = some o → whGo nm c body (n + 1) env = some o
  | 0, _, _, h => by cases h
  | n + 1, env, o, h => by
    unfold whGo at h ⊢
    split at h
    · cases h
    · exact h
    · exact h
    · split at h
      · exact whGo_up h
      · exact whGo_up h
      · exact h
      · exact h
theorem whGo_le {nm : List Nat} {c : Tv} {body : Sm} {n m : Nat} {env : En} {o : Out} (hm : n ≤ m) (h : whGo nm c body n env = some o) : whGo nm c body m env = some o := by
  induction hm with
  | refl => exact h
  | step _ ih => exact whGo_up ih
theorem cWhile_eq {nm : List Nat} {c : Tv} {body : Sm} {n : Nat} {env : En} {o : Out} (h : whGo nm c body n env = some o) : cWhile nm c body env = some o := by
  have hx : ∃ n o, whGo nm c body n env = some o := ⟨n, o, h⟩
  unfold cWhile
  rw [dif_pos hx]
  have q := Classical.choose_spec (Classical.choose_spec hx)
  have q1 := whGo_le (Nat.le_max_left n (Classical.choose hx)) h
  have q2 := whGo_le (Nat.le_max_right n (Classical.choose hx)) q
  rw [q1] at q2
  exact q2.symm
theorem cWhile_run {nm : List Nat} {c : Tv} {body : Sm} {env : En} {o : Out} (h : cWhile nm c body env = some o) : ∃ n, whGo nm c body n env = some o := by
  unfold cWhile at h
  split at h
  · rename_i hx
    rw [← Option.some.inj h]
    exact ⟨_, Classical.choose_spec (Classical.choose_spec hx)⟩
  · cases h
/-- a turn of the loop -/
theorem cWhile_turn {nm : List Nat} {c : Tv} {body : Sm} {env e2 : En} {o : Out} (hc : c (mask nm env) = some (.ok true)) (hb : body env = some (.nx e2)) (h : cWhile nm c body e2 = some o) : cWhile nm c body env = some o := by
  obtain ⟨n, hn⟩ := cWhile_run h
  refine cWhile_eq (n := n + 1) ?_
  unfold whGo
  rw [hc]
  dsimp only
  rw [hb]
  exact hn
theorem cWhile_end {nm : List Nat} {c : Tv} {body : Sm} {env : En} (hc : c (mask nm env) = some (.ok false)) : cWhile nm c body env = some (.nx env) := by
  refine cWhile_eq (n := 1) ?_
  unfold whGo
  rw [hc]
section
variable {X : Cx} {W : WX} {K : PySem.W.Frag} {H0s H0 : Hp} {env env' : En} {Hs H Hs1 H1 : Hp} {σ : Sg} {nm : List Nat} {v : V} {d : D} {D' : Ends} {o : Out} {f : Ev} {Q : VK}
  {body : List Stmt} {F : Sm} {i j : Nat} {x y : Str} {a b tg : Expr} {pos : Pos} {c : Tv} {T : Tg} {g : Iv}
theorem for_red {base : Hp} {ds : List D} {J : It} (w : WalkD K J ds base) (Fr : FrOk K H0s H0 env Hs σ H) (sb : Same base Hs) (e : forGo T F env ds = some o) (q : endS K W H0s H0 Hs D' o) :
    ∃ W' : Nat → Nat → Sg → Hp → Prop, (∃ m, W' 0 m σ H) ∧ ∀ i m σ H, W' i m σ H →
      (J.stop i H ∧ D'.nx σ H) ∨ (J.go i H ∧ ∃ N : Sg → Hp → Prop, (∀ σ' H', N σ' H' → ∃ m', m' < m ∧ W' (i + 1) m' σ' H') ∧ ∀ x H', J.yld i H x H' → gOf K T x σ H' fun σ2 H2 => rdS K W F { D' with nx := N, ct := N, bk := D'.nx } σ2 H2) := by
  refine ⟨fun i m σ' H' => m = ds.length - i ∧ i ≤ ds.length ∧ ∃ env' Hs', FrOk K H0s H0 env' Hs' σ' H' ∧ Same Hs Hs' ∧ forGo T F env' (ds.drop i) = some o, ⟨_, rfl, Nat.zero_le _, env, Hs, Fr, Same.refl _, e⟩, ?_⟩
  rintro i m σ1 H1 ⟨rfl, hi, env1, Hs1, Fr1, s1, e1⟩
  have sb1 : Same base Hs1 := sb.trans s1
  by_cases hlt : i < ds.length
  · right
    refine ⟨w.go i H1 hlt (sb1.trans Fr1.sub), fun σ' H' => i + 1 ≤ ds.length ∧ ∃ env' Hs', FrOk K H0s H0 env' Hs' σ' H' ∧ Same Hs Hs' ∧ forGo T F env' (ds.drop (i + 1)) = some o, fun σ' H' ⟨z1, z2⟩ => ⟨ds.length - (i + 1), by omega, rfl, z1, z2⟩, fun x H2 y => ?_⟩
    have hd : ds[i]? = some ds[i] := List.getElem?_eq_getElem hlt
    have hdrop : ds.drop i = ds[i] :: ds.drop (i + 1) := List.drop_eq_getElem_cons hlt
    obtain ⟨Hs2, a2, r2⟩ := w.yld i H1 Hs1 x H2 _ hd sb1 Fr1.sub y
    rw [hdrop] at e1
    unfold forGo at e1
    cases et : T.set ds[i] env1 with
    | none => rw [et] at e1; cases e1
    | some env2 =>
      rw [et] at e1
      dsimp only at e1
      refine tg_frOk (Fr1.ext' a2) r2 et fun σ2 Fr2 => ?_
      have s2 : Same Hs Hs2 := s1.trans a2.s
      cases eb : F env2 with
      | none => rw [eb] at e1; cases e1
      | some ob =>
        rw [eb] at e1
        refine ⟨H0s, H0, env2, Hs2, ob, Fr2, eb, ?_⟩
        cases ob with
        | nx e3 => exact fun Hs' σ' H' s Fr' => ⟨hlt, e3, Hs', Fr', s2.trans s, e1⟩
        | ct e3 => exact fun Hs' σ' H' s Fr' => ⟨hlt, e3, Hs', Fr', s2.trans s, e1⟩
        | bk e3 =>
          have e4 := Option.some.inj e1
          subst e4
          exact fun Hs' σ' H' s Fr' => q Hs' σ' H' (s2.trans s) Fr'
        | rt u =>
          have e4 := Option.some.inj e1
          subst e4
          exact q
        | x ex e3 =>
          have e4 := Option.some.inj e1
          subst e4
          exact fun cls dd Hs' σ' H' s Fr' rx => q cls dd Hs' σ' H' (s2.trans s) Fr' rx
  · left
    have ei : i = ds.length := by omega
    subst ei
    rw [List.drop_length] at e1
    have e4 := Option.some.inj e1
    subst e4
    exact ⟨w.stop H1 (sb1.trans Fr1.sub), q Hs1 σ1 H1 s1 Fr1⟩
theorem psd_for (hp : PassesOwn (model X.prog X.w) X.A X.env X.xe) (hc : X.calm = true) (hi : PID X W tg a g) (hg : PG X tg (gOf X.K T)) (hb : PSsD X W body F) (hs : ∀ x, foldedSetIterable a X.env x = pure x := by intro _; rfl) : PSD X W (.For tg a body [] pos) (cFor nm g T F) :=
  PS.weak (ps_for hp hc hi hg hb hs) fun D σ H ⟨H0s, H0, env, Hs, o, Fr, e, q⟩ => by
    unfold cFor at e
    cases eg : g (mask nm env) with
    | none => rw [eg] at e; cases e
    | some r =>
      rw [eg] at e
      refine ⟨mask nm env, _, r, Fr.thaw nm, eg, ?_⟩
      cases r with
      | x ex =>
        dsimp only at e
        split at e
        case isFalse => cases e
        case isTrue hx =>
          have e2 := Option.some.inj e
          subst e2
          intro cls dd Hs1 H1 a rx
          obtain ⟨s1, F1, st⟩ := Fr.keep a
          exact q cls dd _ σ H1 s1 F1 (rx.strip st hx)
      | ok ds fz =>
        intro J Hs1 H1 a w
        cases fz with
        | true =>
          obtain ⟨s1, F1⟩ := Fr.frz a
          exact for_red w F1 (Same.refl _) e (q.up s1)
        | false =>
          obtain ⟨s1, F1, st⟩ := Fr.keep a
          exact for_red w F1 (fun _ _ z => nomatch z) e (q.up s1)
theorem psd_while {t : Expr} (hp : PassesOwn (model X.prog X.w) X.A X.env X.xe) (hc : PTD X W t c) (hb : PSsD X W body F) : PSD X W (.While t body [] pos) (cWhile nm c F) :=
  PS.weak (ps_while hp hc hb) fun D σ H ⟨H0s, H0, env, Hs, o, Fr, e, q⟩ => by
    obtain ⟨n, en⟩ := cWhile_run e
    refine ⟨fun m σ' H' => ∃ env' Hs', FrOk X.K H0s H0 env' Hs' σ' H' ∧ Same Hs Hs' ∧ whGo nm c F m env' = some o, ⟨n, env, Hs, Fr, Same.refl _, en⟩, ?_⟩
    rintro m σ1 H1 ⟨env1, Hs1, Fr1, s1, e1⟩
    cases m with
    | zero => cases e1
    | succ m =>
      unfold whGo at e1
      cases ec : c (mask nm env1) with
      | none => rw [ec] at e1; cases e1
      | some r =>
        rw [ec] at e1
        refine test_rd Fr1 ec (fun ex hr => ?_) (fun b Hs2 H2 hr s2 F2 => ?_)
        · subst hr
          dsimp only at e1
          split at e1
          case isFalse => cases e1
          case isTrue hx =>
            have e2 := Option.some.inj e1
            subst e2
            exact ⟨hx, fun cls dd Hs' σ' H' s Fr' rx => q cls dd Hs' σ' H' (s1.trans s) Fr' rx⟩
        · subst hr
          cases b with
          | false =>
            dsimp only at e1 ⊢
            rw [if_neg Bool.false_ne_true]
            have e2 := Option.some.inj e1
            subst e2
            exact q Hs2 σ1 H2 (s1.trans s2) F2
          | true =>
            dsimp only at e1 ⊢
            rw [if_pos rfl]
            refine ⟨fun σ' H' => ∃ env' Hs', FrOk X.K H0s H0 env' Hs' σ' H' ∧ Same Hs Hs' ∧ whGo nm c F m env' = some o, fun σ' H' z => ⟨m, Nat.lt_succ_self _, z⟩, ?_⟩
            cases eb : F env1 with
            | none => rw [eb] at e1; cases e1
            | some ob =>
              rw [eb] at e1
              refine ⟨H0s, H0, env1, Hs2, ob, F2, eb, ?_⟩
              cases ob with
              | nx e3 => exact fun Hs' σ' H' s Fr' => ⟨e3, Hs', Fr', (s1.trans s2).trans s, e1⟩
              | ct e3 => exact fun Hs' σ' H' s Fr' => ⟨e3, Hs', Fr', (s1.trans s2).trans s, e1⟩
              | bk e3 =>
                have e4 := Option.some.inj e1
                subst e4
                exact fun Hs' σ' H' s Fr' => q Hs' σ' H' ((s1.trans s2).trans s) Fr'
              | rt u =>
                have e4 := Option.some.inj e1
                subst e4
                exact q
              | x ex e3 =>
                have e4 := Option.some.inj e1
                subst e4
                exact fun cls dd Hs' σ' H' s Fr' rx => q cls dd Hs' σ' H' ((s1.trans s2).trans s) Fr' rx
end

/-! ### lists of one's own -/
/-- the slot i is a list of one's own: it is changed -/
def onLst (i : Nat) (env : En) (k : List D → Option (List D)) : Option Out := match env[i]? with
  | some (.own (.lst l)) => (k l).map fun l' => .nx (env.set i (.own (.lst l')))
  | _ => none
def isL (i : Nat) (env : En) : Bool := match env[i]? with
  | some (.own (.lst _)) => true
  | _ => false
def cApp (i : Nat) (nm : List Nat) (f : Ev) : Sm := fun env => if isL i env then evx nm f env fun u env1 => onLst i env1 fun l => if l.length < sizeLine then some (l ++ [u.d]) else none else none
def cExtend (i : Nat) (nm : List Nat) (f : Ev) : Sm := fun env => if isL i env then evx nm f env fun u env1 => match u.d with
  | .lst m => onLst i env1 fun l => if l.length + m.length ≤ sizeLine then some (l ++ m) else none
  | _ => none else none
def cSetIx (i : Nat) (nm : List Nat) (f ix : Ev) : Sm := fun env => evx nm f env fun u env1 => if isL i env1 then evx nm ix env1 fun w env2 => match w.d with
  | .int k => onLst i env2 fun l => (ixN l.length k).map fun j => l.set j u.d
  | _ => none else none
def cRev (i : Nat) : Sm := fun env => onLst i env fun l => some l.reverse
def cClr (i : Nat) : Sm := fun env => onLst i env fun _ => some []
section
variable {X : Cx} {W : WX} {K : PySem.W.Frag} {H0s H0 : Hp} {env env' : En} {Hs H Hs1 H1 : Hp} {σ : Sg} {nm : List Nat} {v : V} {d : D} {D' : Ends} {o : Out} {f : Ev} {Q : VK}
  {i j : Nat} {x y : Str} {a b tg : Expr} {pos p ap cp : Pos} {to : TE}
theorem isL_at (Fr : FrOk K H0s H0 env Hs σ H) (h : isL i env = true) : ∃ p xs l, env[i]? = some (Slot.own (.lst l)) ∧ σ[i]? = some (some (V.ref p)) ∧ H p = some (.lst xs) ∧ Reps K Hs xs l := by
  unfold isL at h
  split at h
  · rename_i l ei
    obtain ⟨p, ob, h1, h2, h3, h4, h5⟩ := Fr.own i _ ei
    cases h5 with
    | lst r => exact ⟨p, _, l, ei, h1, h4, r⟩
  · cases h
theorem onLst_at {k : List D → Option (List D)} (Fr : FrOk K H0s H0 env Hs σ H) (e : onLst i env k = some o) (q : endS K W H0s H0 Hs D' o) :
    ∃ p xs l l', σ[i]? = some (some (V.ref p)) ∧ H p = some (.lst xs) ∧ Reps K Hs xs l ∧ k l = some l' ∧ ∀ xs', Reps K Hs xs' l' → D'.nx σ (upd H p (.lst xs')) := by
  unfold onLst at e
  split at e
  · rename_i l ei
    obtain ⟨p, ob, h1, h2, h3, h4, h5⟩ := Fr.own i _ ei
    cases h5 with
    | lst r =>
      cases ek : k l with
      | none => rw [ek] at e; cases e
      | some l' =>
        rw [ek] at e
        have e2 := Option.some.inj e
        subst e2
        exact ⟨p, _, l, l', h1, h4, r, ek, fun xs' r' => q Hs σ _ (Same.refl _) (Fr.mut ei h1 (.lst r'))⟩
  · cases e
/-- one argument -/
theorem evx1 {k : Vn → En → Option Out} {Q1 : List V → Hp → Prop} (Fr : FrOk K H0s H0 env Hs σ H) (e : evx nm f env k = some o) (q : endS K W H0s H0 Hs D' o)
    (hk : ∀ v u env1 Hs1 H1, Same Hs Hs1 → FrOk K H0s H0 env1 Hs1 σ H1 → Rep K Hs1 v u.d → k u env1 = some o → endS K W H0s H0 Hs1 D' o → Q1 [v] H1) : tCons (rdE K W f) tNil σ H Q1 :=
  evx_ok Fr e q fun v u env1 Hs1 H1 s1 F1 gt e1 q1 => by
    obtain ⟨Hs2, s2, F2, r2⟩ := gt.share F1
    exact hk v u env1 Hs2 H1 (s1.trans s2) F2 r2 e1 (q1.up s2)
theorem tyL {p : Addr} {xs : List V} (h : H p = some (.lst xs)) : tyV K "list" (.ref p) H := .inl ⟨rfl, _, SqL.of h⟩
theorem psd_app (hm : PE X a (tBM X.K "list" rAppend (tVar i) (tCons (rdE X.K W f) tNil))) (hs : swapsWith a none pos.line X.env = pure false := by rfl) : PSD X W (.Expr a pos) (cApp i nm f) :=
  PS.weak (ps_expr hm hs) fun D σ H ⟨H0s, H0, env, Hs, o, Fr, e, q⟩ => by
    unfold cApp at e
    split at e
    case isFalse => cases e
    case isTrue hl =>
      obtain ⟨p, xs, l, h1, h2, h3, h4⟩ := isL_at Fr hl
      refine ⟨_, h2, tyL h3, evx1 Fr e q fun v u env1 Hs1 H1 s1 F1 r1 e1 q1 => ?_⟩
      obtain ⟨p', xs', l1, l2, g1, g2, g3, g4, g5⟩ := onLst_at F1 e1 q1
      rw [h2] at g1
      cases g1
      split at g4
      · have g6 := Option.some.inj g4
        subst g6
        exact ⟨p, xs', v, rfl, rfl, g2, by rw [g3.length]; assumption, g5 _ (g3.append (.cons r1 .nil))⟩
      · cases g4
theorem psd_extend (hm : PE X a (tBM X.K "list" rExtend (tVar i) (tCons (rdE X.K W f) tNil))) (hs : swapsWith a none pos.line X.env = pure false := by rfl) : PSD X W (.Expr a pos) (cExtend i nm f) :=
  PS.weak (ps_expr hm hs) fun D σ H ⟨H0s, H0, env, Hs, o, Fr, e, q⟩ => by
    unfold cExtend at e
    split at e
    case isFalse => cases e
    case isTrue hl =>
      obtain ⟨p, xs, l, h1, h2, h3, h4⟩ := isL_at Fr hl
      refine ⟨_, h2, tyL h3, evx1 Fr e q fun v u env1 Hs1 H1 s1 F1 r1 e1 q1 => ?_⟩
      split at e1
      · rename_i m eu
        rw [eu] at r1
        obtain ⟨p', xs', l1, l2, g1, g2, g3, g4, g5⟩ := onLst_at F1 e1 q1
        rw [h2] at g1
        cases g1
        cases r1 with
        | lst z1 z2 =>
          split at g4
          · have g6 := Option.some.inj g4
            subst g6
            exact ⟨p, _, xs', _, rfl, rfl, g2, F1.sub _ _ z1, by rw [g3.length, z2.length]; assumption, g5 _ (g3.append z2)⟩
          · cases g4
      · cases e1
theorem psd_rev (hm : PE X a (tBM0 X.K "list" rReverse (tVar i))) (hs : swapsWith a none pos.line X.env = pure false := by rfl) : PSD X W (.Expr a pos) (cRev i) :=
  PS.weak (ps_expr hm hs) fun D σ H ⟨H0s, H0, env, Hs, o, Fr, e, q⟩ => by
    obtain ⟨p', xs', l1, l2, g1, g2, g3, g4, g5⟩ := onLst_at Fr e q
    have g6 := Option.some.inj g4
    subst g6
    exact ⟨_, g1, tyL g2, p', xs', rfl, rfl, g2, g5 _ g3.rev⟩
theorem psd_clr (hm : PE X a (tBM0 X.K "list" rClear (tVar i))) (hs : swapsWith a none pos.line X.env = pure false := by rfl) : PSD X W (.Expr a pos) (cClr i) :=
  PS.weak (ps_expr hm hs) fun D σ H ⟨H0s, H0, env, Hs, o, Fr, e, q⟩ => by
    obtain ⟨p', xs', l1, l2, g1, g2, g3, g4, g5⟩ := onLst_at Fr e q
    have g6 := Option.some.inj g4
    subst g6
    exact ⟨_, g1, tyL g2, p', xs', rfl, rfl, g2, g5 _ .nil⟩
/-- x[k] = e -/
theorem psd_setIx {ix : Ev} {k : Expr} {tp : Pos} (he : PD X W a f) (hv : PE X b (tVar i)) (hi : PD X W k ix) (hg : PG X (.Subscript b k tp) (gSub (tVar i) (rdE X.K W ix) rSetL))
    (hs : swapsWithSole [.Subscript b k tp] a pos.line X.env = pure false := by rfl) (hw : swappedStores [.Subscript b k tp] a X.env = pure none := by rfl)
    (h1 : (assignEach [.Subscript b k tp] X.env).map (·.2) = [assign (.Subscript b k tp) X.env] := by rfl) : PSD X W (.Assign [.Subscript b k tp] a pos) (cSetIx i nm f ix) :=
  PS.weak (ps_asg he hg hs hw h1) fun D σ H ⟨H0s, H0, env, Hs, o, Fr, e, q⟩ =>
    evx_ok Fr e q fun v u env1 Hs1 H1 s1 F1 gt e1 q1 => by
      split at e1
      case isFalse => cases e1
      case isTrue hl =>
        obtain ⟨p, xs, l, h1, h2, h3, h4⟩ := isL_at F1 hl
        obtain ⟨Hs2, s2, F2, r2⟩ := gt.share F1
        refine ⟨_, h2, evx_ok F2 e1 (q1.up s2) fun w z env2 Hs3 H3 s3 F3 gt3 e3 q3 => ?_⟩
        obtain ⟨Hs4, s4, F4, r4⟩ := gt3.share F3
        split at e3
        · rename_i kk ek
          rw [ek] at r4
          cases r4
          obtain ⟨p', xs', l1, l2, g1, g2, g3, g4, g5⟩ := onLst_at F4 e3 (q3.up s4)
          rw [h2] at g1
          cases g1
          cases ej : ixN l1.length kk with
          | none => rw [ej] at g4; cases g4
          | some j =>
            rw [ej] at g4
            have g6 := Option.some.inj g4
            subst g6
            exact ⟨p, xs', kk, j, rfl, rfl, g2, by rw [g3.length]; exact ej, g5 _ (Reps.set ((r2.mono s3).mono s4) j g3)⟩
        · cases e3
end

/-! ### a def by its function -/
def envOf (n : Nat) (ds : List D) : En := ds.map Slot.sh ++ List.replicate (n - ds.length) .un
/-- the function of a body: np parameters, n names -/
def runB (np n : Nat) (F : Sm) (ds : List D) : Option Rs := if ds.length = np then match F (envOf n ds) with
  | some (.rt u) => some u.r
  | some (.nx _) => some (.v .non)
  | some (.x e _) => some (.x e)
  | _ => none else none
section
variable {P : Program} {w : World} {K : PySem.W.Frag} {mg : Str → Option Value} {base : Heap} {x qual : Str} {params : Arguments} {body : List Stmt} {scope : Scope} {f : Addr} {fd : FuncData} {N ps : List Str} {k np n : Nat} {F : Sm}
theorem envOf_start {Hs H : Hp} {vs : List V} {ds : List D} (s : Same Hs H) (r : Reps K Hs vs ds) (n : Nat) (hN : N.length = n) : FrOk K Hs H (envOf n ds) Hs (start N vs) H := by
  have len : (envOf n ds).length = (start N vs).length := by
    unfold envOf L2.start
    rw [List.length_append, List.length_append, List.length_map, List.length_map, List.length_replicate, List.length_replicate, r.length, hN]
  have noown : ∀ (i : Nat) (d : D), (envOf n ds)[i]? ≠ some (Slot.own d) := fun i d e => by
    have hm := List.mem_of_getElem? e
    unfold envOf at hm
    rcases List.mem_append.mp hm with z | z
    · obtain ⟨_, _, z2⟩ := List.mem_map.mp z
      cases z2
    · have := List.eq_of_mem_replicate z
      cases this
  refine ⟨Ext.refl s, len, fun i d e => ?_, fun i d e => absurd e (noown i d), fun i j d d' p e => absurd e (noown i d)⟩
  unfold envOf at e
  by_cases hi : i < ds.length
  · rw [List.getElem?_append_left (by rw [List.length_map]; exact hi), List.getElem?_map] at e
    cases ed : ds[i]? with
    | none => rw [ed] at e; cases e
    | some d' =>
      rw [ed] at e
      have e2 : d' = d := Slot.sh.inj (Option.some.inj e)
      subst e2
      obtain ⟨v, h1, h2⟩ := r.get ed
      refine ⟨v, ?_, h2⟩
      unfold L2.start
      rw [List.getElem?_append_left (by rw [List.length_map, r.length]; exact hi), List.getElem?_map, h1]
      rfl
  · have hm := List.mem_of_getElem? e
    rw [List.getElem?_append_right (by rw [List.length_map]; omega)] at e
    have := List.eq_of_mem_replicate (List.mem_of_getElem? e)
    cases this
theorem fn_ok (Fd : FunD K x qual params body scope [] [] f fd) (S : FnScope N ps scope) (hN : N.length = n) (hp : ps.length = np)
    (hb : ∀ (cdv : Value) (A : Around) (outer : List Env) (s : Shared) (H : Hp) (E : XK), Room k (A.deeper (envOfC qual scope s.heap.objs.size f cdv)) →
      PSsD (cxOf (L2.CX P w) P w K mg base N qual scope f cdv A outer s H E) (fun cls dd _ H' => E cls dd H') body F) : FnOk P w K mg base (L2.CX P w) (k + 1) f fd ps (spD K (runB np n F)) := by
  refine Fd.ok S (fun vs H Q E ⟨Hs, ds, r, s, rp, e, _⟩ => ?_) fun cdv A outer s H vs Q E hr ⟨Hs, ds, r, sm, rp, e, q⟩ => ⟨_, hb cdv A outer s H E hr, ?_⟩
  · unfold runB at e
    split at e
    · rw [rp.length, hp]; assumption
    · cases e
  · unfold runB at e
    split at e
    case isFalse => cases e
    case isTrue hl =>
      cases ef : F (envOf n ds) with
      | none => rw [ef] at e; cases e
      | some o =>
        rw [ef] at e
        refine ⟨Hs, H, envOf n ds, Hs, o, envOf_start sm rp n hN, ef, ?_⟩
        cases o with
        | nx e1 =>
          have e2 := Option.some.inj e
          subst e2
          exact fun Hs' σ' H' s Fr => q _ Hs' H' Fr.ext .non
        | rt u =>
          have e2 := Option.some.inj e
          subst e2
          exact endV.r q
        | x ex e1 =>
          have e2 := Option.some.inj e
          subst e2
          exact fun cls dd Hs' σ' H' s Fr rx => q cls dd Hs' H' Fr.ext rx
        | bk e1 => cases e
        | ct e1 => cases e
end
end HD

set_option Elab.async false
set_option linter.all false
set_option maxRecDepth 100000
set_option maxHeartbeats 4000000
/-! HDh: isinstance; the free built-ins; the end. -/
namespace HD
open PySem PySem.Spec PyProof.Rows L2

/-! ### isinstance of built-in types -/
def isIntD : D → Option Bool
  | .int _ | .bl _ => some true
  | .non | .str _ | .tup _ | .lst _ => some false
  | _ => none
def isBoolD : D → Option Bool
  | .bl _ => some true
  | .int _ | .non | .str _ | .tup _ | .lst _ => some false
  | _ => none
def isTupD : D → Option Bool
  | .tup _ => some true
  | .int _ | .bl _ | .non | .str _ | .lst _ => some false
  | _ => none
def isLstD : D → Option Bool
  | .lst _ => some true
  | .int _ | .bl _ | .non | .str _ | .tup _ => some false
  | _ => none
def isStrD : D → Option Bool
  | .str _ => some true
  | .int _ | .bl _ | .non | .lst _ | .tup _ => some false
  | _ => none
def tyN : D → String
  | .int _ => "int" | .bl _ => "bool" | .non => "NoneType" | .str _ => "str" | .tup _ => "tuple" | .lst _ => "list" | _ => ""
def cIs (g : D → Option Bool) (f : Ev) : Ev := fun env => bindR (f env) fun d => (g d).map fun b => .v (.bl b)
/-- g tells isinstance(_, T) -/
def IsT (T : String) (g : D → Option Bool) : Prop := ∀ d b, g d = some b → (∃ i, d = .int i) ∨ (∃ i, d = .bl i) ∨ d = .non ∨ (∃ i, d = .str i) ∨ (∃ i, d = .tup i) ∨ (∃ i, d = .lst i) ∧ True
section
variable {X : Cx} {W : WX} {a : Expr} {f : Ev} {x : Str} {p q pos : Pos} {T : String} {g : D → Option Bool}
theorem Rep.tyX {K : PySem.W.Frag} {H : Hp} {v : V} {d : D} (r : Rep K H v d) (h : tyN d ≠ "") : TyX K H v (.type (tyN d)) := by
  cases r with
  | non => exact .base .non
  | bl b => exact .base (.bl b)
  | int i => exact .base (.int i)
  | str x => exact .base (.str x)
  | lst h1 r1 => exact .base (.lst h1)
  | tup h1 r1 =>
    rcases h1 with (h1 | ⟨o, h1⟩) | ⟨o, its, n, h1, h2, _⟩
    · exact .base (.tup h1)
    · exact .fTuple h1
    · exact .kTuple h1 h2
  | scr h1 r1 => exact absurd rfl h
  | ins h1 r1 => exact absurd rfl h
theorem pd_is (hT : ∀ d b, g d = some b → tyN d ≠ "" ∧ kitB (tyN d) T = some b) (hg : Gl X "isinstance") (hm : X.mg "isinstance" = none) (hg2 : Gl X x) (hm2 : X.mg x = none) (hv : bootBuiltins x = some (.type T)) (hn : x ≠ "__name__") (hdb : (x == ("__debug__" : Str)) = false) (ha : PD X W a f)
    (he : starEach [a, .Name x q] X.env = (false, eval a X.env) :: starEach [.Name x q] X.env := by rfl) (he2 : starEach [.Name x q] X.env = (false, eval (.Name x q) X.env) :: starEach [] X.env := by rfl) (hpl : (backTo pos (starEach [.Name x q] X.env)).any (·.1) = false := by rfl) :
    PD X W (.Call (.Name "isinstance" p) [a, .Name x q] [] pos) (cIs g f) :=
  pd_of (pe_callB call_isi hg hm (by decide +kernel) (pa_cons ha (pa_cons (pe_bltn (v := .ty T) hg2 hm2 hv rfl hn hdb) pa_nil he2) he) (by decide +kernel) (by decide +kernel) he hpl) fun σ H Q env Hs r F e q => rd_bind F e q fun v d Hs1 H1 a1 F1 r1 e1 q1 => by
    cases eg : g d with
    | none => rw [eg] at e1; cases e1
    | some b =>
      rw [eg] at e1
      have e2 := Option.some.inj e1
      subst e2
      obtain ⟨h1, h2⟩ := hT d b eg
      exact ⟨v, .ty T, _, _, b, rfl, .ty T, (r1.mono F1.sub).tyX h1, kit_ty h2, endV.here F1.sub q1 (.bl b)⟩
end
theorem is_int : ∀ d b, isIntD d = some b → tyN d ≠ "" ∧ kitB (tyN d) "int" = some b := fun d b h => by
  cases d <;> first
    | (cases h; done)
    | (have e := Option.some.inj h; subst e; exact ⟨by simp [tyN], by simp only [tyN]; decide +kernel⟩)
theorem is_bool : ∀ d b, isBoolD d = some b → tyN d ≠ "" ∧ kitB (tyN d) "bool" = some b := fun d b h => by
  cases d <;> first
    | (cases h; done)
    | (have e := Option.some.inj h; subst e; exact ⟨by simp [tyN], by simp only [tyN]; decide +kernel⟩)
theorem is_tup : ∀ d b, isTupD d = some b → tyN d ≠ "" ∧ kitB (tyN d) "tuple" = some b := fun d b h => by
  cases d <;> first
    | (cases h; done)
    | (have e := Option.some.inj h; subst e; exact ⟨by simp [tyN], by simp only [tyN]; decide +kernel⟩)
theorem is_lst : ∀ d b, isLstD d = some b → tyN d ≠ "" ∧ kitB (tyN d) "list" = some b := fun d b h => by
  cases d <;> first
    | (cases h; done)
    | (have e := Option.some.inj h; subst e; exact ⟨by simp [tyN], by simp only [tyN]; decide +kernel⟩)
theorem is_str : ∀ d b, isStrD d = some b → tyN d ≠ "" ∧ kitB (tyN d) "str" = some b := fun d b h => by
  cases d <;> first
    | (cases h; done)
    | (have e := Option.some.inj h; subst e; exact ⟨by simp [tyN], by simp only [tyN]; decide +kernel⟩)

/-! ### the built-ins that stay free -/
def frees : List Str := ["len", "range", "zip", "enumerate", "reversed", "sorted", "sum", "all", "any", "abs", "min", "max", "divmod", "tuple", "list", "int", "str", "bool", "set", "isinstance", "dict"]
def Gs (mg : Str → Option Value) : Prop := ∀ x ∈ frees, mg x = none
theorem Gs.at {mg : Str → Option Value} (g : Gs mg) (i : Nat) {x : Str} (h : frees[i]? = some x := by rfl) : mg x = none := g x (List.mem_of_getElem? h)
theorem bt_len : bootBuiltins "len" = some (.builtin "len") := by decide +kernel
theorem bt_sum : bootBuiltins "sum" = some (.builtin "sum") := by decide +kernel
theorem bt_all : bootBuiltins "all" = some (.builtin "all") := by decide +kernel
theorem bt_any : bootBuiltins "any" = some (.builtin "any") := by decide +kernel
theorem bt_abs : bootBuiltins "abs" = some (.builtin "abs") := by decide +kernel
theorem bt_min : bootBuiltins "min" = some (.builtin "min") := by decide +kernel
theorem bt_max : bootBuiltins "max" = some (.builtin "max") := by decide +kernel
theorem bt_divmod : bootBuiltins "divmod" = some (.builtin "divmod") := by decide +kernel
theorem bt_sorted : bootBuiltins "sorted" = some (.builtin "sorted") := by decide +kernel
theorem bt_tuple : bootBuiltins "tuple" = some (.type "tuple") := by decide +kernel
theorem bt_list : bootBuiltins "list" = some (.type "list") := by decide +kernel
theorem bt_int : bootBuiltins "int" = some (.type "int") := by decide +kernel
theorem bt_bool : bootBuiltins "bool" = some (.type "bool") := by decide +kernel
theorem bt_str : bootBuiltins "str" = some (.type "str") := by decide +kernel

/-- a constant of the module -/
def Cn (mg : Str → Option Value) (K : PySem.W.Frag) (x : Str) (d : D) : Prop := ∃ u v, mg x = some u ∧ RelV v u ∧ ∀ H, Rep K H v d
theorem pd_cn {X : Cx} {W : WX} {x : Str} {d : D} {pos : Pos} (c : Cn X.mg X.K x d) (hg : Gl X x) (hd : (x == ("__debug__" : Str)) = false := by decide) : PD X W (.Name x pos) (cC d) := by
  obtain ⟨u, v, hm, r, rp⟩ := c
  exact pd_glob hg hm r rp hd
theorem cn_int {mg : Str → Option Value} {K : PySem.W.Frag} {x : Str} {i : Int} (h : ∃ t, mg x = some (.int i t)) : Cn mg K x (.int i) := by
  obtain ⟨t, e⟩ := h
  exact ⟨_, .int i, e, ⟨t, rfl⟩, fun _ => .int i⟩
theorem cn_str {mg : Str → Option Value} {K : PySem.W.Frag} {x z : Str} (h : ∃ t, mg x = some (.str z t)) : Cn mg K x (.str z) := by
  obtain ⟨t, e⟩ := h
  exact ⟨_, .str z, e, ⟨t, rfl⟩, fun _ => .str z⟩
theorem _root_.L2.Room.u65 {k : Nat} {A : Around} (r : Room k A) : A.units + 65 < cLine := by have := r.un; omega

/-! ### the end -/
theorem mkDn {P : Program} {w : World} {K : PySem.W.Frag} {mg : Str → Option Value} {base : Heap} {x : Str} {k : Nat} {φ : List D → Option Rs} {f : Addr} {fd : FuncData} {ps : List Str} {params : Arguments} {body : List Stmt} {scope : Scope}
    (F : FunD K x x params body scope [] [] f fd) (ok : FnOk P w K mg base (L2.CX P w) k f fd ps (spD K φ)) (gm : mg x = some (.ref f))
    (hb : ∀ (kV doc pm : Value) (an : Option Addr) (cdv ct : Value) (us : List Value), us.length = ps.length → bindArgs (PySem.W.fnOf x x params body scope .none kV doc pm an cdv ct) ⟨us, []⟩ = pure (ps.zip us)) : Dn P w K mg base x k φ :=
  ⟨f, fd, ps, ok, gm, F.kp, F.bindsN hb⟩
/-- a law's function at a script is True -/
def Keeps (φ : List D → Option Rs) : Prop := ∀ ns : List Int, ns.length ≤ 63 → (∀ z ∈ ns, Builtin.Int.intBits z ≤ 1048576) → φ [.scr (ns.map .int)] = some (.v (.bl true))
theorem reps_ints (K : PySem.W.Frag) (H : Hp) : ∀ ns : List Int, Reps K H (ns.map V.int) (ns.map D.int)
  | [] => .nil
  | n :: ns => .cons (.int n) (reps_ints K H ns)
theorem walk_D {l : PySem.W.OpenLaw} {k : Nat} {q : Program} {loose : List Str} {XP : (Str → Option Value) → Heap → Prop} {YP : World → Heap → Prop} {d : DefRec} {x : Str} {φ : List D → Option Rs}
    (hn : l.most = some 63) (hdf : d.params.defaults = []) (hr : Room k callerA) (hφ : Keeps φ)
    (F : ∀ (w : World) (mg : Str → Option Value) (fa : Addr) (h : Heap), YP w h → h.Ns mainGlobals mg → mg d.name = some (.ref fa) →
      ∃ (K : PySem.W.Frag) (fd : FuncData), K.In h ∧ (∀ (s : Shared) (u : Value), BindsTo s fd ⟨[u], []⟩ [(x, u)]) ∧
        ∀ base : Heap, K.In base → base.Ns mainGlobals mg → FnOk l.prog w K mg base (L2.CX l.prog w) k fa fd [x] (spD K φ)) :
    PySem.W.WalkO q loose XP YP l.row.toRowW d [] (fun f vs => PySem.call f vs) :=
  Att.attach_callB hn hdf fun w s₀ s₁ mg mb fa o pm cd doc a vs ns G Y ho hd hcd hmg hobj hints hlen hbits hg => by
    obtain ⟨K, fd, KX, hb, hF⟩ := F w mg fa _ Y G.T.g hmg
    refine law_call KX G.T.g G.T.b G.T.builtins G.T.nolimit hg hobj hints (Nat.le_trans hlen (by decide)) hr hF hb (fun H hO hS => ?_) fun H e s' hx => ?_
    · refine ⟨H, [.scr (ns.map .int)], _, Same.refl _, .cons (.scr hS (reps_ints K H ns)) .nil, hφ ns hlen hbits, fun v Hs' H' _ r => ?_⟩
      cases r
      rfl
    · obtain ⟨_, _, _, _, _, _, _, _, _, _, _, _, z⟩ := hx
      exact z.elim
/-- the hook: the facts fa, the defs fn, a check of one's own -/
abbrev hookH (fa : List He.Fa) (fn : List He.DefD) (ex : PySem.W.Frag → Bool) : PySem.W.Hook := He.hookX 4 fa fn [] [] ex
end HD

set_option Elab.async false
set_option linter.all false
set_option maxRecDepth 100000
set_option maxHeartbeats 4000000
/-! HDi: enumerate(tuple), any, len(set(ints)), divmod, max. -/
namespace HD
open PySem PySem.Spec PyProof.Rows L2

/-! ### enumerate of a tuple -/
/-- what enumerate lays beside the iterator at p -/
def enObj (p : Addr) : Obj := { cls := .type "enumerate", data := .fields #[.none, .bool false, .ref p, rawInt 0, .none, .none] }
theorem new_enumB {v : Value} {o : Obj} {Hc : Heap → Prop} (B : Begins v o Hc) :
    Meets (Builtin.«enumerate.__new__» ⟨[.type "enumerate", v], []⟩) (fun _ R s => Hc s.heap ∧ R (.ok (.ret (.ref (s.heap.push o).objs.size))) { s with heap := (s.heap.push o).push (enObj s.heap.objs.size) }) :=
  .of_wp fun prog w A R ⟨hp, gn, dr, tk, oz⟩ ⟨h0, h1⟩ => by
    have sb := sub_enumerate
    have it1 : ∀ {A' : Around} {E' : Value → Shared → Prop} {Q' : Value → Shared → Prop}, Q' (.ref hp.objs.size) ⟨hp.push o, gn, dr, tk, oz⟩ → wpAny (model prog w) A' (pyIter v) Q' E' ⟨hp, gn, dr, tk, oz⟩ :=
      fun {A' E' Q'} => B.iter prog w A' E' ⟨hp, gn, dr, tk, oz⟩ Q' h0
    wp_walk using it1
    apply wpAny_stack_any
    intro _
    apply wpAny_pure
    split
    all_goals first
      | (wp_walk using it1; exact ⟨_, rfl, h1⟩)
      | (rename_i c0 _ _ _ _ _; generalize (c0 == Value.type "enumerate") = z; cases z <;> (wp_walk using it1; exact ⟨_, rfl, h1⟩))
theorem call_enumB {prog : Program} {w : World} {A : Around} {E : Value → Shared → Prop} {s : Shared} {v : Value} {o : Obj} {Hc : Heap → Prop} {Q : Value → Shared → Prop} (B : Begins v o Hc) (h0 : Hc s.heap)
    (h : ∀ g, g.get? s.heap.objs.size = some o → IsEnum g (s.heap.objs.size + 1) s.heap.objs.size 0 .none → (∀ b x, s.heap.get? b = some x → g.get? b = some x) → Q (.ref (s.heap.objs.size + 1)) { s with heap := g }) :
    wpAny (model prog w) A (call (.type "enumerate") [v]) Q E s := by
  have sz : (s.heap.push o).objs.size = s.heap.objs.size + 1 := Heap.size_push ..
  have at1 : ((s.heap.push o).push (enObj s.heap.objs.size)).get? (s.heap.objs.size + 1) = some (enObj s.heap.objs.size) := sz ▸ Heap.get?_push_size _ rfl
  apply callType_new F.called_enumerate (by decide) (F.typeCall_enumerate_1 _) (F.newCall_enumerate_1 _) (fun obj => F.args_object_init_2 obj _) F.entry_enumerate_new (new_enumB B)
  refine ⟨h0, ?_⟩
  show _ ∧ _
  rw [sz]
  exact ⟨⟨_, at1, rfl⟩, h _ (Heap.get?_push_of_some _ (Heap.get?_push_size _ B.free)) at1 fun b x z => Heap.get?_push_of_some _ (Heap.get?_push_of_some _ z)⟩
/-- the tuple at a, each item in a new pair -/
def IteT (K : PySem.W.Frag) (a : Addr) : It :=
  ⟨fun i H => ∃ (xs : List V) (x : V), SqT K H a xs ∧ xs[i]? = some x, fun i H v H' => ∃ T x, v = .ref T ∧ H T = none ∧ H' = upd H T (.tup [.int (i : Nat), x]) ∧ ∀ xs, SqT K H a xs → xs[i]? = some x, fun i H => ∃ xs : List V, SqT K H a xs ∧ xs.length = i⟩
/-- e goes through the tuple at a by the iterator p: i items are behind it -/
def EnAt (a e p : Addr) (i : Nat) (h : Heap) : Prop := (∃ old, IsEnum h e p ((i : Nat) : Int) old) ∧ h.IsTupleIter p a i ∧ e ≠ p ∧ a ≠ p ∧ e ≠ a
theorem turn_enumT {P : Program} {w : World} {K : PySem.W.Frag} {elts : List Expr} {kk : Nat} {tpos : Pos} (a e p : Addr) : Turn P w K (.Tuple elts kk tpos) (IteT K a) [e, p] e (EnAt a e p) where
  mem := .head _
  obj := fun _ _ ⟨⟨_, z⟩, ⟨_, y, _, d⟩, _⟩ => List.forall_mem_cons.2 ⟨⟨_, z, fun _ q => nomatch q⟩, List.forall_mem_cons.2 ⟨⟨_, y, fun _ q => by rw [d] at q; cases q⟩, fun _ q => nomatch q⟩⟩
  keep := fun _ _ _ ⟨⟨old, z⟩, y, r⟩ k => ⟨⟨old, k _ (.head _) _ z⟩, y.at (k _ (.tail _ (.head _))), r⟩
  item := fun X hP hw hK hc i pins s σ H E I hf ⟨en, ti, n1, n2, n3⟩ ⟨xs, x, hq, hx⟩ => by
    subst hP hw hK
    obtain ⟨its, rv, tup, _⟩ := I.tuple hq
    obtain ⟨u, hu, ru⟩ := rv.get hx
    have W := WalksT.enumerateD (prog := X.prog) (w := X.w) (A := X.A) (Draws.tuple (A := X.A.in1) (I.ok.hd hc) p a n2 its.toArray) e n1 (by simp [n1, n3]) (by simp)
    refine W.item i s _ E (by rw [List.size_toArray]; exact (List.getElem?_eq_some_iff.mp hu).1) ⟨en, ti, tup⟩ fun T vals h' tk pt hT lies mid keep => ⟨_, rfl, W.go elts kk tpos i T _ _ E mid fun h'' st2 keep2 => ?_⟩
    obtain ⟨t, y, hy, ev⟩ := pt
    have ey : some y = some u := hy.symm.trans (by simpa using hu)
    have away := W.apart i T _ mid
    have I2 := I.turnedNew (t' := tk) (h' := h'') (ch := [e, p]) (T := T) (ob := .tup [.int (i : Nat), x]) (fun b o hb q => keep2 b o hb (keep b o hb q)) hf hT
      ⟨by show 2 ≤ sizeLine; decide, [.int i t, u], .cons ⟨_, rfl⟩ (.cons ru .nil), by
        obtain ⟨o, g, r⟩ := lies
        rw [ev, Option.some.inj ey] at r
        exact ⟨o, keep2 T o away g, r⟩⟩
    exact ⟨.ref T, _, I2, rfl, ⟨T, x, rfl, I.hok.fresh hT, rfl, fun ys hy => (I.tuple_inj hy hq).symm ▸ hx⟩, ⟨st2.1, st2.2.1, n1, n2, n3⟩, fun b hb => (upd_ne (show b ≠ T from fun z => away (z ▸ hb))).trans (hf b hb).1⟩
  done := fun X hP hw hK hc i pins s σ H E I hf ⟨en, ti, n1, n2, n3⟩ ⟨xs, hq, hx⟩ => by
    subst hP hw hK hx
    obtain ⟨its, rv, tup, _⟩ := I.tuple hq
    have W := WalksT.enumerateD (prog := X.prog) (w := X.w) (A := X.A) (Draws.tuple (A := X.A.in1) (I.ok.hd hc) p a n2 its.toArray) e n1 (by simp [n1, n3]) (by simp)
    have sz : xs.length = its.toArray.size := by rw [List.size_toArray, ← rv.length]
    rw [sz] at en ti
    exact W.done s _ E ⟨en, ti, tup⟩ fun _ tk k => ⟨rfl, I.turnedL (t' := tk) (ch := [e, p]) k hf⟩
  self := fun _ _ _ _ _ st h => st.1.elim fun _ z => wpAny_pyIter_enum z h
theorem pi_enumA {X : Cx} {e : Expr} {ta : TA} {p pos tpos : Pos} {elts : List Expr} {kk : Nat} (hg : Gl X "enumerate") (hm : X.mg "enumerate" = none) (ha : PA X [e] ta) (hs : starEach [e] X.env = [(false, eval e X.env)] := by rfl) :
    PI X (.Tuple elts kk tpos) (.Call (.Name "enumerate" p) [e] [] pos) (fun σ H R => ta σ H fun vs H1 => ∃ a, vs = [.ref a] ∧ ((∃ xs, SqL X.K H1 a xs ∧ R (Ite X.K a) H1) ∨ ∃ xs, SqT X.K H1 a xs ∧ R (IteT X.K a) H1)) := ⟨fun pins s σ H R I h => by
  refine Call_ (ld_blt I hg hm boot_enumerate (PyProof.Rows.callWith_type1 (thn (ha.run pos pins s σ H _ I h) ?_) hs rfl))
  rintro us s1 ⟨vs, H1, I1, r1, a, rfl, qq⟩
  rw [Vals.ref1 r1]
  have new2 : ∀ b ∈ [s1.heap.objs.size + 1, s1.heap.objs.size], FpOk X pins H1 b :=
    List.forall_mem_cons.2 ⟨I1.fpOk (Nat.le_succ _) (I1.hok.fresh (Nat.le_succ _)), List.forall_mem_cons.2 ⟨I1.fpOk (Nat.le_refl _) (I1.hok.fresh (Nat.le_refl _)), fun _ z => nomatch z⟩⟩
  rcases qq with ⟨xs, hq, q⟩ | ⟨xs, hq, q⟩
  · exact (I1.list hq).elim fun _ z => call_enumerate_list z.2.1.isList fun g en ti _ old => wpAny_pyIter_enum en
      ⟨_, _, _, _, H1, rfl, I1.kept (t' := s1.toks) old, turn_enum a _ _, ⟨⟨_, en⟩, ti, Nat.succ_ne_self _⟩, new2, q⟩
  · obtain ⟨its, _, tup, _⟩ := I1.tuple hq
    have hla : a < s1.heap.objs.size := tup.elim fun _ z => Heap.lt_size z.1
    exact call_enumB (begins_tuple a its.toArray) tup fun g ti en old => wpAny_pyIter_enum en
      ⟨_, _, _, _, H1, rfl, I1.kept (t' := s1.toks) old, turn_enumT a _ _, ⟨⟨_, en⟩, ⟨_, ti, rfl, rfl⟩, Nat.succ_ne_self _, Nat.ne_of_lt hla, Nat.ne_of_gt (Nat.lt_succ_of_lt hla)⟩, new2, q⟩⟩
section
variable {K : PySem.W.Frag} {a : Addr} {vs : List V} {ds : List D} {Hs1 : Hp}
theorem walkD_enumT (h : SqT K Hs1 a vs) (r : Reps K Hs1 vs ds) : WalkD K (IteT K a) (enD 0 ds) Hs1 where
  go := fun i H hi s => by
    have hi' : i < vs.length := by rw [r.length, ← enD_len (k := 0)]; exact hi
    exact ⟨vs, vs[i], same_sqt s h, List.getElem?_eq_getElem hi'⟩
  stop := fun H s => ⟨vs, same_sqt s h, by rw [enD_len, ← r.length]⟩
  yld := fun i H Hs x H' d hd s1 s2 y => by
    obtain ⟨T, x1, rfl, hn, eh, e1⟩ := y
    obtain ⟨z, rfl, ez⟩ := enD_get hd
    obtain ⟨v, e3, r3⟩ := r.get ez
    have e4 := e1 vs (same_sqt (s1.trans s2) h)
    rw [e3] at e4
    have e5 := Option.some.inj e4
    subst e5
    rw [Nat.zero_add]
    exact yld_pair s2 hn eh (.int _) (r3.mono s1)
end
/-- enumerate of a list, the script, a tuple -/
def iEnA (fs : List Ev) : Iv := fun env => bindLI (evs fs env) fun ds => match ds with
  | [.lst l] => some (.ok (enD 0 l) true)
  | [.scr l] => some (.ok (enD 0 l) true)
  | [.tup l] => some (.ok (enD 0 l) true)
  | _ => none
section
variable {X : Cx} {W : WX} {a : Expr} {f : Ev} {p pos tpos : Pos}
theorem pid_enumA {elts : List Expr} {kk : Nat} (hg : Gl X "enumerate") (hm : X.mg "enumerate" = none) (ha : PAD X W [a] [f]) (hs : starEach [a] X.env = [(false, eval a X.env)] := by rfl) : PID X W (.Tuple elts kk tpos) (.Call (.Name "enumerate" p) [a] [] pos) (iEnA [f]) :=
  PI.weak (pi_enumA hg hm ha hs) fun σ H R ⟨env, Hs, r, F, e, q⟩ => ri_bindL F e q fun vs ds Hs1 H1 a1 F1 r1 e1 q1 => by
    split at e1
    · have e3 := Option.some.inj e1
      subst e3
      obtain ⟨v, rfl, h⟩ := reps1 r1
      cases h with
      | lst h r => exact ⟨_, rfl, .inl ⟨_, SqL.of (F1.sub _ _ h), endI.done F1.sub q1 (walkD_enum (SqL.of h) r)⟩⟩
    · have e3 := Option.some.inj e1
      subst e3
      obtain ⟨v, rfl, h⟩ := reps1 r1
      cases h with
      | scr h r => exact ⟨_, rfl, .inl ⟨_, F1.sub.seq h, endI.done F1.sub q1 (walkD_enum h r)⟩⟩
    · have e3 := Option.some.inj e1
      subst e3
      obtain ⟨v, rfl, h⟩ := reps1 r1
      cases h with
      | tup h r => exact ⟨_, rfl, .inr ⟨_, same_sqt F1.sub h, endI.done F1.sub q1 (walkD_enumT h r)⟩⟩
    · cases e1
end

/-! ### any -/
theorem truth_ints {prog : Program} {w : World} {A : Around} {ns : List Int} {its : List Value} (e : IntsAre its ns) :
    TruthOf prog w A (fun i v => its.toArray[i]? = some v) (fun i => ns.getD i 0 != 0) := fun i v s Q E hv hq => by
  have hv' : its[i]? = some v := by simpa using hv
  obtain ⟨t, e2⟩ := IntsAre.int_at e i v hv'
  subst e2
  exact PySem.P.truthy_int hq
theorem any_rangeI : ∀ ns : List Int, (List.range ns.length).any (fun i => ns.getD i 0 != 0) = ns.any (· != 0)
  | [] => rfl
  | n :: ns => by
    rw [List.length_cons, List.range_succ_eq_map, List.any_cons, List.any_map, List.any_cons, ← any_rangeI ns]
    rfl
/-- any over whole numbers: x begins with the iterator o, which goes through its -/
theorem any_ints {X : Cx} {pins : List (Addr × Obj)} {σ : Sg} {H : Hp} {s : Shared} {Q : VK} {x : Value} {o : Obj} {Hc : Heap → Prop} {fp : List Addr} {its : List Value} {ns : List Int} {St : Nat → Heap → Prop} (I : Inv X pins σ H s) (B : Begins x o Hc) (h0 : Hc s.heap)
    (W : Walks X.prog X.w X.A.in1 s.heap.objs.size fp [s.heap.objs.size] its.toArray.size (fun i v => its.toArray[i]? = some v) St) (st : St 0 (s.heap.push o)) (rv : Vals (ns.map V.int) its) (q : Q (.bl (ns.any (· != 0))) H) :
    wpAny (model X.prog X.w) X.A (call (.builtin "any") [x]) (EP X pins σ Q) X.xe s := by
  have len : its.toArray.size = ns.length := by simpa using rv.length.symm
  apply call_any_walk
  refine B.iter _ _ _ _ s _ h0 ⟨_, fp, _, _, _, St, _, rfl, W, st, truth_ints rv.ints, fun g tk old => ⟨_, H, I.kept (fun b z e => old b z (fun m => ?_) (Heap.get?_push_of_some _ e)), ?_, q⟩⟩
  · cases List.mem_singleton.1 m
    exact Nat.lt_irrefl _ (Heap.lt_size e)
  · rw [len, any_rangeI]
    exact rfl
theorem cr_anyI {X : Cx} (hc : X.calm = true) : CallR X (.builtin "any") (fun vs H Q => ∃ (a : Addr) (ns : List Int), vs = [V.ref a] ∧ SqL X.K H a (ns.map V.int) ∧ Q (.bl (ns.any (· != 0))) H) :=
  fun pins s σ H vs us Q I r ⟨a, ns, ev, hs, q⟩ => by
    subst ev
    obtain ⟨its, rv, hl, _⟩ := I.list hs
    have low : a ≠ s.heap.objs.size := hl.isList.elim fun _ z => Nat.ne_of_lt (Heap.lt_size z.1)
    rw [Vals.ref1 r]
    exact any_ints I (begins_list a its.toArray) hl.isList (Walks.list (A := X.A.in1) (I.ok.hd hc) _ a low its.toArray) ⟨⟨_, Heap.get?_push_size _ rfl, rfl, rfl⟩, hl.isList.push _⟩ rv q
def anyC : List D → Option Vn
  | [.lst l] => match D.bls l with
    | some bs => some (.v (.bl (bs.any id)))
    | none => (D.ints l).map fun ns => .v (.bl (ns.any (· != 0)))
  | _ => none
theorem cd_any {X : Cx} (hc : X.calm = true) : CallD X (.builtin "any") anyC := fun pins s σ H vs us Q I r ⟨Hs, ds, u, sb, rp, eg, q⟩ => by
  unfold anyC at eg
  split at eg
  · obtain ⟨v, rfl, h⟩ := reps1 rp
    cases h with
    | lst h1 r1 =>
      split at eg
      · rename_i bs e1
        have e2 := Option.some.inj eg
        subst e2
        exact cr_any hc pins s σ H _ us Q I r ⟨_, bs, rfl, by rw [← bls_rep e1 r1]; exact SqL.of (sb _ _ h1), endV.here sb q (.bl _)⟩
      · obtain ⟨ns, e1, rfl⟩ := map_u eg
        exact cr_anyI hc pins s σ H _ us Q I r ⟨_, ns, rfl, by rw [← ints_rep e1 r1]; exact SqL.of (sb _ _ h1), endV.here sb q (.bl _)⟩
  · cases eg

/-! ### divmod, max -/
def divmodC : List D → Option Vn
  | [.int i, .int j] => if 0 < j ∧ j.natAbs.log2 < 9000 then some (.v (.tup [.int (i / j), .int (i % j)])) else none
  | _ => none
theorem cd_divmod {X : Cx} : CallD X (.builtin "divmod") divmodC := CallR.weak call_divmodW fun vs H Q ⟨Hs, ds, u, sb, r, eg, q⟩ => by
  unfold divmodC at eg
  split at eg
  · split at eg
    · rename_i hj
      have e2 := Option.some.inj eg
      subst e2
      obtain ⟨v, w, rfl, h, h2⟩ := reps2 r
      cases h
      cases h2
      exact ⟨_, _, rfl, ⟨hj.1, PyProof.noPylong_of_log2 hj.2⟩, fun p hp => endV.newT sb q hp (.cons (.int _) (.cons (.int _) .nil))⟩
    · cases eg
  · cases eg

/-! ### len(set(x)) -/
/-- len(set(a)), once it is known what the two calls do with a's value -/
theorem pe_lenSetOf {X : Cx} {a : Expr} {ta : TE} {φ : V → Hp → VK → Prop} {p p2 q pos : Pos} (hg : Gl X "len") (hm : X.mg "len" = none) (hg2 : Gl X "set") (hm2 : X.mg "set" = none) (ha : PE X a ta)
    (na : starEach [a] X.env = (false, eval a X.env) :: starEach [] X.env)
    (core : ∀ (pins : List (Addr × Obj)) (s : Shared) (σ : Sg) (H : Hp) (x : V) (v : Value) (Q : VK), Inv X pins σ H s → RelV x v → φ x H Q →
      wpAny (model X.prog X.w) X.A (call (.type "set") [v]) (fun r s' => wpAny (model X.prog X.w) X.A (call (.builtin "len") [r]) (EP X pins σ Q) X.xe s') X.xe s) :
    PE X (.Call (.Name "len" p) [.Call (.Name "set" p2) [a] [] q] [] pos) (fun σ H Q => ta σ H fun x H1 => φ x H1 Q) :=
  ⟨fun pins s σ H Q I h => Call_ (ld_blt I hg hm boot_len (PyProof.Rows.callWith_builtin1 (PyProof.Rows.args_cons (Call_ (ld_blt I hg2 hm2 boot_set (PyProof.Rows.callWith_type1
    (PyProof.Rows.args_cons (thn (ha.run pins s σ H _ I h) fun v s1 ⟨x, H1, I1, r1, q1⟩ => PyProof.Rows.args_nil
      (thn (core pins s1 σ H1 x v Q I1 r1 q1) fun _ _ z => PyProof.Rows.args_nil z)) na) na rfl))) rfl) rfl rfl))⟩
def nubN (ns : List Int) : Nat := (firstMet (fun i => ns.getD i 0) ns.length).length
theorem firstMet_le (f : Nat → Int) : ∀ n, (firstMet f n).length ≤ n
  | 0 => Nat.le_refl _
  | n + 1 => by
    have ih := firstMet_le f n
    rw [firstMet_succ]
    unfold step_dedup
    split
    · exact Nat.le_succ_of_le ih
    · rw [List.length_append]
      exact Nat.succ_le_succ ih
theorem pe_lenSetN {X : Cx} {a : Expr} {ta : TE} {p p2 q pos : Pos} (hg : Gl X "len") (hm : X.mg "len" = none) (hg2 : Gl X "set") (hm2 : X.mg "set" = none) (ha : PE X a ta) (hc : X.calm = true)
    (na : starEach [a] X.env = (false, eval a X.env) :: starEach [] X.env := by rfl) : PE X (.Call (.Name "len" p) [.Call (.Name "set" p2) [a] [] q] [] pos)
      (fun σ H Q => ta σ H fun x H1 => ∃ (l : Addr) (ns : List Int), x = .ref l ∧ SqL X.K H1 l (ns.map V.int) ∧ ns.length ≤ 4000 ∧ Q (.int (nubN ns : Nat)) H1) :=
  pe_lenSetOf hg hm hg2 hm2 ha na fun pins s σ H x v Q I r ⟨l, ns, ex, hq, hl, q1⟩ => by
    subst ex
    cases r
    obtain ⟨its, rv, pl, _⟩ := I.list hq
    have sz : its.toArray.size = ns.length := by simpa using rv.length.symm
    have few := firstMet_le (fun i => ns.getD i 0) ns.length
    refine call_set_list (I.ok.hd hc) pl.isList (ns := ns) (by simpa using rv.ints) (by rw [sz]; unfold scanBound; omega) fun g tk made old => ?_
    rw [sz] at made
    rcases made with ⟨o, es, ep, t, ho, hex, hd, -, -, -, fits, n⟩
    exact call_len_set ho hex hd fits (by rw [n] <;> omega) ⟨.int (nubN ns : Nat), H, (I.kept fun b z e => old b z (Heap.lt_size e) e).tok _, ⟨_, by rw [n]; rfl⟩, q1⟩
def cLenSet (f : Ev) : Ev := fun env => bindR (f env) fun d => match d with
  | .lst l => (D.ints l).bind fun ns => if ns.length ≤ 4000 then some (.v (.int (nubN ns : Nat))) else none
  | _ => none
theorem pd_lenSet {X : Cx} {W : WX} {a : Expr} {f : Ev} {p p2 q pos : Pos} (hg : Gl X "len") (hm : X.mg "len" = none) (hg2 : Gl X "set") (hm2 : X.mg "set" = none) (ha : PD X W a f) (hc : X.calm = true)
    (na : starEach [a] X.env = (false, eval a X.env) :: starEach [] X.env := by rfl) : PD X W (.Call (.Name "len" p) [.Call (.Name "set" p2) [a] [] q] [] pos) (cLenSet f) :=
  pd_of (pe_lenSetN hg hm hg2 hm2 ha hc na) fun σ H Q env Hs r F e q => rd_bind F e q fun v d Hs1 H1 a1 F1 r1 e1 q1 => by
    split at e1
    · rename_i l
      rcases e2 : D.ints l with _ | ns
      · rw [e2] at e1; cases e1
      · rw [e2] at e1
        have e3 : (if ns.length ≤ 4000 then some (Rs.v (.int (nubN ns : Nat))) else none) = some r := e1
        split at e3
        · rename_i hl
          have e4 := Option.some.inj e3
          subst e4
          cases r1 with
          | lst h1 r1 => exact ⟨_, ns, rfl, by rw [← ints_rep e2 r1]; exact SqL.of (F1.sub _ _ h1), hl, endV.here F1.sub q1 (.int _)⟩
        · cases e3
    · cases e1
end HD

set_option Elab.async false
set_option linter.all false
set_option maxRecDepth 100000
set_option maxHeartbeats 4000000
/-! HDj: instances of own classes: methods, fields, making. -/
namespace HD
open PySem PySem.Spec PyProof.Rows L2
section
variable {X : Cx} {k : Nat} {f C : Addr} {fd : FuncData} {ps : List Str} {sp : Sp} {WW : WX} {x m : Str} {p pos apos : Pos} {e o : Expr} {es : List Expr} {ta : TE} {t : TA}
/-- how the call o.m(..) is read: o, the method, the arguments -/
abbrev MethAt (X : Cx) (pl : Sem Bool) (o : Expr) (m : Str) (apos : Pos) (es : List Expr) (pos : Pos) : Prop :=
  eval (.Call (.Attribute o m apos) es [] pos) X.env = (do let ov ← eval o X.env; standAt apos.atName; let (g, us) ← holding [ov] (getMethod ov m pl); callWith pos g us (backTo pos (starEach es X.env)) (backToKw pos (keywordEach [] X.env)))
/-- the part ahead of the arguments -/
theorem meth_recv {pl : Sem Bool} {es : List Expr} {pins : List (Addr × Obj)} {s : Shared} {σ : Sg} {H : Hp} {φ : V → Hp → Prop} {R : Value → Shared → Prop} (he : PE X o ta) (c : Cls X.K C) (hm : Meth X.K C m f) (ht : MethAt X pl o m apos es pos) (I : Inv X pins σ H s)
    (h : ta σ H fun x H1 => ∃ a dx fs, x = .ref a ∧ H1 a = some (.ins C dx fs) ∧ fs.lookup m = none ∧ φ x H1)
    (go : ∀ a s1 H1, Inv X pins σ H1 s1 → φ (.ref a) H1 → wpAny (model X.prog X.w) X.A (callWith pos (.ref f) [.ref a] (backTo pos (starEach es X.env)) (backToKw pos (keywordEach [] X.env))) R X.xe s1) :
    wpAny (model X.prog X.w) X.A (eval (.Call (.Attribute o m apos) es [] pos) X.env) R X.xe s :=
  PySem.W.methodCall_KW (pl := pl) (thn (he.run pins s σ H _ I h) (by
    rintro u s1 ⟨_, H1, I1, ru, a, _, _, rfl, at1, own, q⟩
    cases ru
    exact getmeth_ok I1 at1 c hm own (go a s1 H1 I1 q))) ht
/-- o.m(..), the wish for exceptions by the frame -/
def tMethS (C : Addr) (m : Str) (sp : Sp) (WW : WX) (ta : TE) (t : TA) : TE := fun σ H Q => ta σ H fun x H1 => ∃ a dx fs, x = .ref a ∧ H1 a = some (.ins C dx fs) ∧ fs.lookup m = none ∧
  t σ H1 fun vs H2 => sp (x :: vs) H2 Q (WE WW σ)
theorem pe_methWS {pl : Sem Bool} (he : PE X o ta) (c : Cls X.K C) (hm : Meth X.K C m f) (F : FnOk X.prog X.w X.K X.mg X.base (L2.CX X.prog X.w) k f fd ps sp) (hr : Room k X.A) (hb : Binds X.K fd ps []) (tk : Takes X WW) (ha : PA X (e :: es) t)
    (hst : starEach (e :: es) X.env = (false, eval e X.env) :: starEach es X.env) (hpl : (backTo pos (starEach es X.env)).any (·.1) = false) (ht : MethAt X pl o m apos (e :: es) pos) :
    PE X (.Call (.Attribute o m apos) (e :: es) [] pos) (tMethS C m sp WW ta t) :=
  ⟨fun pins s σ H Q I h => meth_recv he c hm ht I h fun a s1 H1 I1 q => PySem.W.callWith_K (first := [.ref a]) (h₀ := X.base) I1.ok.mod.kin hm.kp
    (thn (ha.run pos pins s1 σ H1 _ I1 q) fun us s2 ⟨vs, _, I2, r, q2⟩ => ⟨I2.kIn, run_fnS (us := .ref a :: us) (vs := .ref a :: vs) F hr hb (passAt tk σ) I2 (.cons rfl r) q2⟩) hst hpl⟩
theorem pe_methWS0 {pl : Sem Bool} (he : PE X o ta) (c : Cls X.K C) (hm : Meth X.K C m f) (F : FnOk X.prog X.w X.K X.mg X.base (L2.CX X.prog X.w) k f fd ps sp) (hr : Room k X.A) (hb : Binds X.K fd ps []) (tk : Takes X WW) (ht : MethAt X pl o m apos [] pos) :
    PE X (.Call (.Attribute o m apos) [] [] pos) (tMethS C m sp WW ta tNil) :=
  ⟨fun pins s σ H Q I h => meth_recv he c hm ht I h fun a s1 H1 I1 q => PySem.W.callWith_K0 (first := [.ref a]) I1.kIn hm.kp (run_fnS (us := [.ref a]) (vs := [.ref a]) F hr hb (passAt tk σ) I1 (.cons rfl .nil) q)⟩
/-- C(..) -/
def tMakeS (C : Addr) (sp : Sp) (WW : WX) (t : TA) : TE := fun σ H Q => t σ H fun vs H1 => ∀ x dx, H1 x = none → H1 dx = none → dx ≠ x →
  sp (.ref x :: vs) (upd (upd H1 dx (.own x)) x (.ins C dx [])) (fun v H2 => v = .non ∧ Q (.ref x) H2) (WE WW σ)
/-- an instance of C is laid, and __init__ is called with it and us -/
theorem make_at {pins : List (Addr × Obj)} {s : Shared} {σ : Sg} {H : Hp} {Q : VK} {vs : List V} {us : List Value} (M : Mk X.K C f) (F : FnOk X.prog X.w X.K X.mg X.base (L2.CX X.prog X.w) k f fd ps sp) (hr : Room (k + 1) X.A) (hb : Binds X.K fd ps []) (tk : Takes X WW) (I : Inv X pins σ H s) (r : Vals vs us)
    (q : ∀ x dx, H x = none → H dx = none → dx ≠ x → sp (.ref x :: vs) (upd (upd H dx (.own x)) x (.ins C dx [])) (fun v H2 => v = .non ∧ Q (.ref x) H2) (WE WW σ)) : wpAny (model X.prog X.w) X.A (call (.ref C) us) (EP X pins σ Q) X.xe s := by
  have mine := Inv.made (C := C) I
  generalize hN : s.heap.objs.size = N at mine
  have q0 := q (N + 1) N (I.hok.fresh (hN ▸ Nat.le_succ _)) (I.hok.fresh (Nat.le_of_eq hN)) (Nat.ne_of_lt (Nat.lt_succ_self N))
  have rel : Vals (V.ref (N + 1) :: vs) (Value.ref (N + 1) :: us) := .cons rfl r
  have args := hb _ (Value.ref (N + 1) :: us) mine.kIn (by rw [List.append_nil, ← rel.length]; exact F.len _ _ _ _ q0)
  rw [List.append_nil] at args
  subst hN
  exact wpAny_call (make_map (f := f) I.kIn M.makes M.init (beq_iff_eq.mp M.fn) (codeAny_mono (F.run _ X.stack _ _ _ _ _ _ _ (hr.make C us []) (mine.env0.make C us []) args rel q0) fun
    | .error e, s2, z => passAt tk σ pins _ _ e s2 mine z
    | .ok (.ret u), s2, z => match mine.after z with | ⟨_, H2, I2, ru, ev, q2⟩ => ⟨by subst ev; exact ru, .ref (s.heap.objs.size + 1), H2, I2, rfl, q2⟩
    | .ok .next, _, z => z.elim
    | .ok .brk, _, z => z.elim
    | .ok .cont, _, z => z.elim))
theorem pe_makeWS (M : Mk X.K C f) (F : FnOk X.prog X.w X.K X.mg X.base (L2.CX X.prog X.w) k f fd ps sp) (hr : Room (k + 1) X.A) (hg : Gl X x) (hm : X.mg x = some (.ref C)) (hb : Binds X.K fd ps []) (tk : Takes X WW) (ha : PA X (e :: es) t)
    (hdb : (x == ("__debug__" : Str)) = false) (hst : starEach (e :: es) X.env = (false, eval e X.env) :: starEach es X.env) (hpl : (backTo pos (starEach es X.env)).any (·.1) = false) : PE X (.Call (.Name x p) (e :: es) [] pos) (tMakeS C sp WW t) :=
  ⟨fun pins s σ H Q I h => wpAny_Call_Name_kw (ld_glob I hg hm (PySem.W.callWith_K (h₀ := X.base) I.ok.mod.kin M.kp (thn (ha.run pos pins s σ H _ I h) fun _ s1 ⟨_, H1, I1, r, q⟩ => ⟨I1.kIn, make_at M F hr hb tk I1 r q⟩) hst hpl) hdb)⟩
end

/-! ### methods -/
/-- the class's method m keeps φ -/
def Mt (P : Program) (w : World) (K : PySem.W.Frag) (mg : Str → Option Value) (base : Heap) (C m : Str) (k : Nat) (φ : List D → Option Rs) : Prop :=
  ∃ f fd ps, FnOk P w K mg base (L2.CX P w) k f fd ps (spD K φ) ∧ Cls K (He.ga K C) ∧ Meth K (He.ga K C) m f ∧ Binds K fd ps []
/-- o.m(..): by the class of o -/
def methR (m : Str) (tbl : List (Str × (List D → Option Rs))) (fs : List Ev) (env : En) : D → Option Rs
  | .ins C gs => (tbl.lookup C).bind fun φ => if gs.lookup m = none then bindL (evs fs env) fun ds => φ (.ins C gs :: ds) else none
  | _ => none
def cMeth (m : Str) (tbl : List (Str × (List D → Option Rs))) (o : Ev) (fs : List Ev) : Ev := fun env => bindR (o env) (methR m tbl fs env)
def methO (m C : Str) (φ : List D → Option Rs) (fs : List Ev) (env : En) : D → Option Rs
  | .ins C' gs => if C' = C ∧ gs.lookup m = none then bindL (evs fs env) fun ds => φ (.ins C' gs :: ds) else none
  | _ => none
theorem methR_O {m : Str} {tbl : List (Str × (List D → Option Rs))} {fs : List Ev} {env : En} {d : D} {r : Rs} (h : methR m tbl fs env d = some r) : ∃ C φ, (C, φ) ∈ tbl ∧ methO m C φ fs env d = some r := by
  unfold methR at h
  split at h
  · rename_i C gs
    cases hl : tbl.lookup C with
    | none => rw [hl] at h; cases h
    | some φ =>
      rw [hl] at h
      refine ⟨C, φ, ?_, ?_⟩
      · clear h
        induction tbl with
        | nil => cases hl
        | cons a tbl ih =>
          rw [List.lookup_cons] at hl
          split at hl
          · rename_i hb
            have e := eq_of_beq hb
            obtain ⟨a1, a2⟩ := a
            have e2 : φ = a2 := (Option.some.inj hl).symm
            rw [e2, show C = a1 from e]
            exact List.mem_cons_self ..
          · exact List.mem_cons_of_mem _ (ih hl)
      · have h2 : (if gs.lookup m = none then bindL (evs fs env) fun ds => φ (.ins C gs :: ds) else none) = some r := h
        show (if C = C ∧ gs.lookup m = none then bindL (evs fs env) fun ds => φ (.ins C gs :: ds) else none) = some r
        by_cases hz : gs.lookup m = none
        · rw [if_pos ⟨rfl, hz⟩]
          rw [if_pos hz] at h2
          exact h2
        · rw [if_neg hz] at h2
          cases h2
  · cases h
theorem RepF.none' {K : PySem.W.Frag} {H : Hp} {m : Str} : ∀ {fs : List (Str × V)} {gs : List (Str × D)}, RepF K H fs gs → gs.lookup m = none → fs.lookup m = none
  | [], [], _, _ => rfl
  | (a, v) :: fs, gs, r, h => by
    cases r with
    | cons r rr =>
      rw [List.lookup_cons] at h ⊢
      split at h
      · cases h
      · exact RepF.none' rr h
section
variable {X : Cx} {W : WX} {o e : Expr} {es : List Expr} {fo : Ev} {fs : List Ev} {pos apos : Pos} {k : Nat} {m : Str} {tbl : List (Str × (List D → Option Rs))}
theorem pd_meth {pl : Sem Bool} (hn : tbl ≠ []) (hne : ∀ q ∈ tbl, Mt X.prog X.w X.K X.mg X.base q.1 m k q.2) (hr : Room k X.A) (tk : Takes X W) (ho : PD X W o fo) (ha : PAD X W (e :: es) fs)
    (hst : starEach (e :: es) X.env = (false, eval e X.env) :: starEach es X.env := by rfl) (hpl : (backTo pos (starEach es X.env)).any (·.1) = false := by rfl)
    (ht : MethAt X pl o m apos (e :: es) pos := by rfl) :
    PD X W (.Call (.Attribute o m apos) (e :: es) [] pos) (cMeth m tbl fo fs) := by
  have main : ∀ C φ, Mt X.prog X.w X.K X.mg X.base C m k φ → PD X W (.Call (.Attribute o m apos) (e :: es) [] pos) (fun env => bindR (fo env) (methO m C φ fs env)) := fun C φ ⟨f, fd, ps, Fn, hc, hm, hb⟩ =>
    pd_of (pe_methWS ho hc hm Fn hr hb tk ha hst hpl ht) fun σ H Q env Hs r F e1 q => rd_bind F e1 q fun v d Hs1 H1 a1 F1 r1 e2 q1 => by
      unfold methO at e2
      split at e2
      · rename_i C' gs
        split at e2
        · rename_i hcond
          obtain ⟨rfl, hl⟩ := hcond
          cases r1 with
          | ins h2 r2 =>
            refine ⟨_, _, _, rfl, F1.sub _ _ h2, RepF.none' r2 hl, ?_⟩
            exact rd_bindL F1 e2 q1 fun vs ds Hs2 H2 a2 F2 rr e3 q2 => ⟨Hs2, _ :: ds, r, F2.sub, .cons (Rep.mono a2.s (.ins h2 r2)) rr, e3, q2⟩
        · cases e2
      · cases e2
  refine ⟨fun pins s σ H Q I h => ?_⟩
  obtain ⟨env, Hs, r, F, e1, q⟩ := h
  unfold cMeth at e1
  cases hf : fo env with
  | none => rw [hf] at e1; cases e1
  | some rr =>
    rw [hf] at e1
    cases rr with
    | v d =>
      obtain ⟨C, φ, hmem, h2⟩ := methR_O (show methR m tbl fs env d = some r from e1)
      exact (main C φ (hne _ hmem)).run pins s σ H Q I ⟨env, Hs, r, F, by show bindR (fo env) _ = _; rw [hf]; exact h2, q⟩
    | n d =>
      obtain ⟨C, φ, hmem, h2⟩ := methR_O (show methR m tbl fs env d = some r from e1)
      exact (main C φ (hne _ hmem)).run pins s σ H Q I ⟨env, Hs, r, F, by show bindR (fo env) _ = _; rw [hf]; exact h2, q⟩
    | x d =>
      cases tbl with
      | nil => exact absurd rfl hn
      | cons a tbl => exact (main a.1 a.2 (hne _ (List.mem_cons_self ..))).run pins s σ H Q I ⟨env, Hs, r, F, by show bindR (fo env) _ = _; rw [hf]; exact e1, q⟩
theorem pd_meth0 {pl : Sem Bool} (hn : tbl ≠ []) (hne : ∀ q ∈ tbl, Mt X.prog X.w X.K X.mg X.base q.1 m k q.2) (hr : Room k X.A) (tk : Takes X W) (ho : PD X W o fo)
    (ht : MethAt X pl o m apos [] pos := by rfl) :
    PD X W (.Call (.Attribute o m apos) [] [] pos) (cMeth m tbl fo []) := by
  have main : ∀ C φ, Mt X.prog X.w X.K X.mg X.base C m k φ → PD X W (.Call (.Attribute o m apos) [] [] pos) (fun env => bindR (fo env) (methO m C φ [] env)) := fun C φ ⟨f, fd, ps, Fn, hc, hm, hb⟩ =>
    pd_of (pe_methWS0 ho hc hm Fn hr hb tk ht) fun σ H Q env Hs r F e1 q => rd_bind F e1 q fun v d Hs1 H1 a1 F1 r1 e2 q1 => by
      unfold methO at e2
      split at e2
      · rename_i C' gs
        split at e2
        · rename_i hcond
          obtain ⟨rfl, hl⟩ := hcond
          cases r1 with
          | ins h2 r2 => exact ⟨_, _, _, rfl, F1.sub _ _ h2, RepF.none' r2 hl, Hs1, [_], r, F1.sub, .cons (.ins h2 r2) .nil, e2, q1⟩
        · cases e2
      · cases e2
  refine ⟨fun pins s σ H Q I h => ?_⟩
  obtain ⟨env, Hs, r, F, e1, q⟩ := h
  unfold cMeth at e1
  cases hf : fo env with
  | none => rw [hf] at e1; cases e1
  | some rr =>
    rw [hf] at e1
    cases rr with
    | v d =>
      obtain ⟨C, φ, hmem, h2⟩ := methR_O (show methR m tbl [] env d = some r from e1)
      exact (main C φ (hne _ hmem)).run pins s σ H Q I ⟨env, Hs, r, F, by show bindR (fo env) _ = _; rw [hf]; exact h2, q⟩
    | n d =>
      obtain ⟨C, φ, hmem, h2⟩ := methR_O (show methR m tbl [] env d = some r from e1)
      exact (main C φ (hne _ hmem)).run pins s σ H Q I ⟨env, Hs, r, F, by show bindR (fo env) _ = _; rw [hf]; exact h2, q⟩
    | x d =>
      cases tbl with
      | nil => exact absurd rfl hn
      | cons a tbl => exact (main a.1 a.2 (hne _ (List.mem_cons_self ..))).run pins s σ H Q I ⟨env, Hs, r, F, by show bindR (fo env) _ = _; rw [hf]; exact e1, q⟩
end

/-! ### making an instance: __init__ puts one field -/
/-- what an __init__ promises that puts the field fld -/
def spI (K : PySem.W.Frag) (fld : Str) (φ : List D → Option Rs) : Sp := fun vs H Q E => ∃ Hs ds r x C dx vs', vs = V.ref x :: vs' ∧ H x = some (.ins C dx []) ∧ Cls K C ∧ NoAttr K C fld ∧ Hs x = none ∧ Same Hs H ∧ Reps K Hs vs' ds ∧ φ ds = some r ∧
  match r with
  | .x e => endX K E Hs H e
  | .v d => ∀ v Hs' H', Ext Hs H Hs' H' → Rep K Hs' v d → Q .non (upd H' x (.ins C dx [(fld, v)]))
  | .n d => ∀ v Hs' H', Ext Hs H Hs' H' → Rep K Hs' v d → Q .non (upd H' x (.ins C dx [(fld, v)]))
/-- the class C is made by an __init__ that puts fld by φ -/
def Mi (P : Program) (w : World) (K : PySem.W.Frag) (mg : Str → Option Value) (base : Heap) (C fld : Str) (k : Nat) (φ : List D → Option Rs) : Prop :=
  ∃ f fd ps, FnOk P w K mg base (L2.CX P w) k f fd ps (spI K fld φ) ∧ Mk K (He.ga K C) f ∧ mg C = some (.ref (He.ga K C)) ∧ Binds K fd ps [] ∧ Cls K (He.ga K C) ∧ NoAttr K (He.ga K C) fld
def insR (C fld : Str) (r : Option Rs) : Option Rs := match r with
  | some (.v d) => some (.v (.ins C [(fld, d)]))
  | some (.n d) => some (.v (.ins C [(fld, d)]))
  | some (.x e) => some (.x e)
  | none => none
def cMake (C fld : Str) (φ : List D → Option Rs) (fs : List Ev) : Ev := fun env => bindL (evs fs env) fun ds => insR C fld (φ ds)
section
variable {X : Cx} {W : WX} {e : Expr} {es : List Expr} {fs : List Ev} {pos p : Pos} {k : Nat} {C fld : Str} {φ : List D → Option Rs}
theorem pd_make (G : Mi X.prog X.w X.K X.mg X.base C fld k φ) (hr : Room (k + 1) X.A) (hg : Gl X C) (tk : Takes X W) (ha : PAD X W (e :: es) fs) (hdb : (C == ("__debug__" : Str)) = false := by decide)
    (he : starEach (e :: es) X.env = (false, eval e X.env) :: starEach es X.env := by rfl) (hpl : (backTo pos (starEach es X.env)).any (·.1) = false := by rfl) : PD X W (.Call (.Name C p) (e :: es) [] pos) (cMake C fld φ fs) := by
  obtain ⟨f, fd, ps, Fn, M, hm, hb, hc, hn⟩ := G
  refine pd_of (pe_makeWS M Fn hr hg hm hb tk ha hdb he hpl) fun σ H Q env Hs r F e1 q => rd_bindL F e1 q fun vs ds Hs1 H1 a1 F1 rr e2 q1 => ?_
  intro x dx hx hdx hne
  have hx1 : Hs1 x = none := F1.sub.free hx
  have sm0 : Same Hs1 (upd (upd H1 dx (.own x)) x (.ins (He.ga X.K C) dx [])) := fun b u hb => by
    have hb2 := F1.sub b u hb
    rw [upd_ne (ne_of_none hb2 hx), upd_ne (ne_of_none hb2 hdx)]
    exact hb2
  have ext0 : Ext Hs1 H1 Hs1 (upd (upd H1 dx (.own x)) x (.ins (He.ga X.K C) dx [])) := ((Ext.refl F1.sub).laidN hdx).laidN (by rw [upd_ne (Ne.symm hne)]; exact hx)
  have fin : ∀ d : D, r = .v (.ins C [(fld, d)]) → ∀ v Hs' H', Ext Hs1 (upd (upd H1 dx (.own x)) x (.ins (He.ga X.K C) dx [])) Hs' H' → Rep X.K Hs' v d → (V.non = V.non ∧ Q (.ref x) (upd H' x (.ins (He.ga X.K C) dx [(fld, v)]))) := fun d hd v Hs' H' a2 rv => by
    subst hd
    refine ⟨rfl, ?_⟩
    have hx2 : Hs' x = none := a2.new x hx1 (by rw [upd_same]; exact fun z => (nomatch z))
    have a3 : Ext Hs1 H1 Hs' H' := ext0.trans a2
    have a4 : Ext Hs1 H1 Hs' (upd H' x (.ins (He.ga X.K C) dx [(fld, v)])) := a3.mut hx hx2
    have a5 := a4.freeze hx hx2 (upd_same (H := H') (a := x) (o := .ins (He.ga X.K C) dx [(fld, v)]))
    exact q1 (.ref x) _ _ a5 (.ins upd_same (.cons (rv.mono (same_upd hx2)) .nil))
  cases hφ : φ ds with
  | none => rw [hφ] at e2; cases e2
  | some u =>
    rw [hφ] at e2
    refine ⟨Hs1, ds, u, x, He.ga X.K C, dx, vs, rfl, upd_same, hc, hn, hx1, sm0, rr, hφ, ?_⟩
    cases u with
    | v d => exact fin d (Option.some.inj e2).symm
    | n d => exact fin d (Option.some.inj e2).symm
    | x d =>
      have e3 : Rs.x d = r := Option.some.inj e2
      subst e3
      exact fun cls dd Hs' H' a2 rx => q1 cls dd Hs' H' (ext0.trans a2) rx
end

/-! ### an __init__ that puts one field -/
section
variable {P : Program} {w : World} {K : PySem.W.Frag} {mg : Str → Option Value} {base : Heap} {f : Addr} {fd : FuncData} {N ps : List Str} {x qual : Str} {params : Arguments} {scope : Scope} {k n np : Nat} {F : Ev} {e : Expr} {fld self : Str} {p1 p2 p3 : Pos}
def initB (np n : Nat) (F : Ev) (ds : List D) : Option Rs := if ds.length = np then F (.un :: envOf n ds) else none
theorem fn_init (Fd : FunD K x qual params [.Assign [.Attribute (.Name self p1) fld p2] e p3] scope [] [] f fd) (S : FnScope N ps scope) (hN : N.length = n + 1) (hp : ps.length = np + 1)
    (h0 : N[0]? = some self) (hv : Vis scope self) (hd1 : (self == ("__debug__" : Str)) = false) (hd2 : (self == ("__classdict__" : Str)) = false)
    (hsw : ∀ (env : Env), swapsWith e (some (.Attribute (.Name self p1) fld p2)) p3.line env = pure false)
    (hb : ∀ (cdv : Value) (A : Around) (outer : List Env) (s : Shared) (H : Hp) (E : XK), Room k (A.deeper (envOfC qual scope s.heap.objs.size f cdv)) →
      PD (cxOf (L2.CX P w) P w K mg base N qual scope f cdv A outer s H E) (fun cls dd _ H' => E cls dd H') e F) : FnOk P w K mg base (L2.CX P w) (k + 1) f fd ps (spI K fld (initB np n F)) := by
  refine Fd.ok S (fun vs H Q E ⟨Hs, ds, r, x, C, dx, vs', e1, _, _, _, _, _, rp, eφ, _⟩ => ?_) fun cdv A outer s H vs Q E hr ⟨Hs, ds, r, x, C, dx, vs', e1, hx, hc, hn, hxs, sm, rp, eφ, q⟩ => ?_
  · unfold initB at eφ
    split at eφ
    · rw [e1, List.length_cons, rp.length, hp]
      omega
    · cases eφ
  · subst e1
    unfold initB at eφ
    split at eφ
    case isFalse => cases eφ
    case isTrue hl =>
      have hself : PE (cxOf (L2.CX P w) P w K mg base N qual scope f cdv A outer s H E) (.Name self p1) _ := pe_var (i := 0) h0 hv hd1 hd2
      refine ⟨_, pss_one (ps_fld hself (hb cdv A outer s H E hr) (hsw _)), ?_⟩
      obtain ⟨n0, N', rfl⟩ : ∃ n0 N', N = n0 :: N' := by
        cases N with
        | nil => cases hN
        | cons a b => exact ⟨a, b, rfl⟩
      have hN' : N'.length = n := by rw [List.length_cons] at hN; omega
      have st : L2.start (n0 :: N') (V.ref x :: vs') = some (V.ref x) :: L2.start N' vs' := by
        unfold L2.start
        rw [List.map_cons, List.length_cons, List.length_cons, Nat.add_sub_add_right]
        rfl
      have Fr := envOf_start (N := N') sm rp n hN'
      rw [st]
      have Fe : FrE K (.un :: envOf n ds) Hs (some (V.ref x) :: L2.start N' vs') H := by
        refine ⟨sm, by rw [List.length_cons, List.length_cons, Fr.len], fun i d e => ?_⟩
        cases i with
        | zero => cases e
        | succ i =>
          have e2 : getv (envOf n ds) i = some d := e
          unfold getv at e2
          cases h : (envOf n ds)[i]? with
          | none => rw [h] at e2; cases e2
          | some sl =>
            rw [h] at e2
            cases sl with
            | un => cases e2
            | sh d' =>
              have e3 : d' = d := Option.some.inj e2
              subst e3
              exact Fr.sh i d' h
            | own d' =>
              have hm := List.mem_of_getElem? h
              unfold envOf at hm
              rcases List.mem_append.1 hm with hm | hm
              · obtain ⟨z, _, hz⟩ := List.mem_map.1 hm
                cases hz
              · cases List.eq_of_mem_replicate hm
      have put : ∀ v Hs' H', Ext Hs H Hs' H' → Q .non (upd H' x (.ins C dx [(fld, v)])) → ∃ v0, (some (V.ref x) :: L2.start N' vs')[0]? = some (some v0) ∧ ∃ a C dx fs, v0 = V.ref a ∧ H' a = some (.ins C dx fs) ∧ Cls K C ∧ NoAttr K C fld ∧ fs.length < 1000 ∧ Q .non (upd H' a (.ins C dx (putF fld v fs))) :=
        fun v Hs' H' a hq => ⟨.ref x, rfl, x, C, dx, [], rfl, a.h _ _ hx, hc, hn, by decide, hq⟩
      refine ⟨.un :: envOf n ds, Hs, r, Fe, eφ, ?_⟩
      cases r with
      | v d => exact fun v Hs' H' a rv => put v Hs' H' a (q v Hs' H' a rv)
      | n d =>
        intro v Hs' H' a rn
        obtain ⟨Hs2, a2, rv⟩ := RepN.share a rn
        exact put v Hs2 H' a2 (q v Hs2 H' a2 rv)
      | x e => exact q
end

/-! ### isinstance of own classes -/
def tyInsB (K : PySem.W.Frag) (C : Str) : Bool := decide (PySem.W.findIn K (.ref (He.ga K C)) "__class__" = some (some (.builtin "object.__class__"))) && (decide (PySem.W.specialIn K (.builtin "object.__class__") "__get__" = some (some (.builtin "getset_descriptor.__get__"))) &&
  (decide (PySem.W.takesIn K (.builtin "object.__class__") = some true) && decide (PySem.W.mroIn K (He.ga K C) (.type "object") = some true)))
/-- C is (b) a kind of T -/
def isaB (K : PySem.W.Frag) (C T : Str) (b : Bool) : Bool := decide (PySem.W.kitOne K (.ref (He.ga K C)) (.ref (He.ga K T)) = some b)
/-- what isinstance(x, T) needs of the classes told in tbl -/
def IsC (K : PySem.W.Frag) (mg : Str → Option Value) (T : Str) (tbl : List (Str × Bool)) : Prop := mg T = some (.ref (He.ga K T)) ∧ ∀ q ∈ tbl, tyInsB K q.1 = true ∧ Cls K (He.ga K q.1) ∧ isaB K q.1 T q.2 = true
def cIsC (tbl : List (Str × Bool)) (f : Ev) : Ev := fun env => bindR (f env) fun d => match d with
  | .ins C _ => (tbl.lookup C).map fun b => .v (.bl b)
  | _ => none
theorem lookup_mem {tbl : List (Str × Bool)} {C : Str} {b : Bool} (hl : tbl.lookup C = some b) : (C, b) ∈ tbl := by
  induction tbl with
  | nil => cases hl
  | cons a tbl ih =>
    rw [List.lookup_cons] at hl
    split at hl
    · rename_i hb
      have e := eq_of_beq hb
      obtain ⟨a1, a2⟩ := a
      have e2 : b = a2 := (Option.some.inj hl).symm
      rw [e2, show C = a1 from e]
      exact List.mem_cons_self ..
    · exact List.mem_cons_of_mem _ (ih hl)
section
variable {X : Cx} {W : WX} {a : Expr} {f : Ev} {T : Str} {p q pos : Pos} {tbl : List (Str × Bool)}
theorem pd_isC (J : IsC X.K X.mg T tbl) (hg : Gl X "isinstance") (hm : X.mg "isinstance" = none) (hg2 : Gl X T) (ha : PD X W a f) (hdb : (T == ("__debug__" : Str)) = false := by decide)
    (he : starEach [a, .Name T q] X.env = (false, eval a X.env) :: starEach [.Name T q] X.env := by rfl) (he2 : starEach [.Name T q] X.env = (false, eval (.Name T q) X.env) :: starEach [] X.env := by rfl) (hpl : (backTo pos (starEach [.Name T q] X.env)).any (·.1) = false := by rfl) :
    PD X W (.Call (.Name "isinstance" p) [a, .Name T q] [] pos) (cIsC tbl f) :=
  pd_of (pe_callB call_isi hg hm (by decide +kernel) (pa_cons ha (pa_cons (pe_glob (v := .ref (He.ga X.K T)) hg2 J.1 rfl hdb) pa_nil he2) he) (by decide +kernel) (by decide +kernel) he hpl) fun σ H Q env Hs r F e q => rd_bind F e q fun v d Hs1 H1 a1 F1 r1 e1 q1 => by
    split at e1
    · rename_i C gs
      cases hl : tbl.lookup C with
      | none => rw [hl] at e1; cases e1
      | some b =>
        rw [hl] at e1
        have e2 := Option.some.inj e1
        subst e2
        obtain ⟨h1, h2, h3⟩ := J.2 _ (lookup_mem hl)
        unfold tyInsB at h1
        simp only [Bool.and_eq_true, decide_eq_true_eq] at h1
        cases r1 with
        | ins h4 r2 => exact ⟨_, .ref (He.ga X.K T), _, _, b, rfl, .own _, .base (.ins (F1.sub _ _ h4) h2 h1.1 h1.2.1 h1.2.2.1 h1.2.2.2), of_decide_eq_true h3, endV.here F1.sub q1 (.bl b)⟩
    · cases e1
end
/-! ### the facts of a head -/
theorem mkMt {P : Program} {w : World} {K : PySem.W.Frag} {mg : Str → Option Value} {base : Heap} {C x qual m : Str} {k : Nat} {φ : List D → Option Rs} {f : Addr} {fd : FuncData} {ps : List Str} {params : Arguments} {body : List Stmt} {scope : Scope}
    (F : FunD K x qual params body scope [] [] f fd) (ok : FnOk P w K mg base (L2.CX P w) k f fd ps (spD K φ)) (hc : Cls K (He.ga K C)) (hm : Meth K (He.ga K C) m f)
    (hb : ∀ (kV doc pm : Value) (an : Option Addr) (cdv ct : Value) (us : List Value), us.length = ps.length → bindArgs (PySem.W.fnOf x qual params body scope .none kV doc pm an cdv ct) ⟨us, []⟩ = pure (ps.zip us)) : Mt P w K mg base C m k φ :=
  ⟨f, fd, ps, ok, hc, hm, F.bindsN hb⟩
theorem mkMi {P : Program} {w : World} {K : PySem.W.Frag} {mg : Str → Option Value} {base : Heap} {C x qual fld : Str} {k : Nat} {φ : List D → Option Rs} {f : Addr} {fd : FuncData} {ps : List Str} {params : Arguments} {body : List Stmt} {scope : Scope}
    (F : FunD K x qual params body scope [] [] f fd) (ok : FnOk P w K mg base (L2.CX P w) k f fd ps (spI K fld φ)) (hc : Cls K (He.ga K C)) (hn : NoAttr K (He.ga K C) fld) (M : Mk K (He.ga K C) f) (hm : mg C = some (.ref (He.ga K C)))
    (hb : ∀ (kV doc pm : Value) (an : Option Addr) (cdv ct : Value) (us : List Value), us.length = ps.length → bindArgs (PySem.W.fnOf x qual params body scope .none kV doc pm an cdv ct) ⟨us, []⟩ = pure (ps.zip us)) : Mi P w K mg base C fld k φ :=
  ⟨f, fd, ps, ok, M, hm, F.bindsN hb, hc, hn⟩
def inCls (s : Stmt) (j : Nat) : Stmt := match s with
  | .ClassDef _ _ _ b _ _ _ _ _ _ _ => b.getD j (.Pass ⟨0, 0, 0, 0⟩)
  | _ => .Pass ⟨0, 0, 0, 0⟩
end HD

set_option Elab.async false
set_option linter.all false
set_option maxRecDepth 100000
/-! Ev: how the functions on data are evaluated, by simp -/
namespace HD
open PySem L2
/-- a proof that is not seen as by rfl: the kernel then need not unfold -/
theorem nr {α : Sort u} {a b : α} (h : a = b) : a = b := h

/-! ### sizes of ints -/
class SzC (x : Int) (n : outParam Nat) : Prop where
  lt : x.natAbs < 2 ^ n
class Ps (c : Int) : Prop where
  pos : 0 < c
theorem SzC.mono {x : Int} {m : Nat} (h : SzC x m) {n : Nat} (l : m ≤ n) : SzC x n := ⟨Nat.lt_of_lt_of_le h.lt (Nat.pow_le_pow_right (by decide) l)⟩
instance sz_lit (k : Nat) : SzC (no_index (@OfNat.ofNat Int k instOfNat)) (Nat.log2 k + 1) := ⟨by
  show (Int.ofNat k).natAbs < _
  exact Nat.lt_log2_self⟩
instance sz_add {x y : Int} {m n : Nat} [a : SzC x m] [b : SzC y n] : SzC (x + y) (max m n + 1) := ⟨by
  have h1 := a.lt
  have h2 := b.lt
  have h3 : 2 ^ m ≤ 2 ^ max m n := Nat.pow_le_pow_right (by decide) (Nat.le_max_left _ _)
  have h4 : 2 ^ n ≤ 2 ^ max m n := Nat.pow_le_pow_right (by decide) (Nat.le_max_right _ _)
  rw [Nat.pow_succ]
  omega⟩
instance sz_sub {x y : Int} {m n : Nat} [a : SzC x m] [b : SzC y n] : SzC (x - y) (max m n + 1) := ⟨by
  have h1 := a.lt
  have h2 := b.lt
  have h3 : 2 ^ m ≤ 2 ^ max m n := Nat.pow_le_pow_right (by decide) (Nat.le_max_left _ _)
  have h4 : 2 ^ n ≤ 2 ^ max m n := Nat.pow_le_pow_right (by decide) (Nat.le_max_right _ _)
  rw [Nat.pow_succ]
  omega⟩
instance sz_neg {x : Int} {m : Nat} [a : SzC x m] : SzC (-x) m := ⟨by rw [Int.natAbs_neg]; exact a.lt⟩
instance sz_mul {x y : Int} {m n : Nat} [a : SzC x m] [b : SzC y n] : SzC (x * y) (m + n) := ⟨by
  rw [Int.natAbs_mul, Nat.pow_add]
  exact Nat.mul_lt_mul'' a.lt b.lt⟩
instance sz_ite {c : Prop} [Decidable c] {x y : Int} {m n : Nat} [a : SzC x m] [b : SzC y n] : SzC (if c then x else y) (max m n) := by
  split
  · exact a.mono (Nat.le_max_left _ _)
  · exact b.mono (Nat.le_max_right _ _)
instance sz_mod {x c : Int} {n : Nat} [p : Ps c] [a : SzC c n] : SzC (x % c) n := ⟨by
  have h1 := a.lt
  have h2 := p.pos
  have h3 := Int.emod_nonneg x (b := c) (by omega)
  have h4 := Int.emod_lt_of_pos x h2
  omega⟩
instance sz_div {x c : Int} {n : Nat} [p : Ps c] [a : SzC x n] : SzC (x / c) n := ⟨by
  have h1 := a.lt
  have h2 := p.pos
  have h5 : (x / c).natAbs ≤ x.natAbs := Int.natAbs_ediv_le_natAbs x c
  omega⟩
instance ps_lit (k : Nat) [h : NeZero k] : Ps (no_index (@OfNat.ofNat Int k instOfNat)) := ⟨by
  show (0:Int) < Int.ofNat k
  exact Int.natCast_pos.2 (Nat.pos_of_ne_zero h.out)⟩
instance ps_add {a b : Int} [h1 : Ps a] [h2 : Ps b] : Ps (a + b) := ⟨by have := h1.pos; have := h2.pos; omega⟩
instance ps_mul {a b : Int} [h1 : Ps a] [h2 : Ps b] : Ps (a * b) := ⟨Int.mul_pos h1.pos h2.pos⟩
instance ps_ite {c : Prop} [Decidable c] {a b : Int} [h1 : Ps a] [h2 : Ps b] : Ps (if c then a else b) := by
  split
  · exact h1
  · exact h2
theorem log2_le_of {x : Int} {n : Nat} [a : SzC x n] : x.natAbs.log2 ≤ n := by
  by_cases h : x.natAbs = 0
  · rw [h]; exact Nat.zero_le _
  · exact Nat.le_of_lt ((Nat.log2_lt h).2 a.lt)
def Sz (n : Nat) (x : Int) : Prop := x.natAbs < 2 ^ n
theorem Sz.of {x : Int} {m n : Nat} [a : SzC x m] (h : m ≤ n) : Sz n x := (a.mono h).lt
theorem Sz.c {x : Int} {n : Nat} (h : Sz n x) : SzC x n := ⟨h⟩
theorem szc_of {x : Int} {n : Nat} {b : Int} (h1 : -b ≤ x) (h2 : x ≤ b) (h : b.natAbs < 2 ^ n) : SzC x n := ⟨by omega⟩
theorem mulD_ok {i j : Int} {m n : Nat} [a : SzC i m] [b : SzC j n] (h : m + n ≤ 99999999) : mulD (.int i) (.int j) = some (.v (.int (i * j))) := by
  have h2 := log2_le_of (x := i)
  have h3 := log2_le_of (x := j)
  show (if decide (i.natAbs.log2 + j.natAbs.log2 < 100000000) = true then _ else _) = _
  rw [if_pos (decide_eq_true (by omega))]
theorem fdivD_ok {i j : Int} {n : Nat} [p : Ps j] [b : SzC j n] (h : n ≤ 8999) : fdivD (.int i) (.int j) = some (.v (.int (i / j))) := by
  have h3 := log2_le_of (x := j)
  have h4 := p.pos
  show (if decide (j ≠ 0 ∧ j.natAbs.log2 < 9000) = true then _ else _) = _
  rw [if_pos (decide_eq_true ⟨by omega, by omega⟩), Int.fdiv_eq_ediv_of_nonneg _ (by omega)]
theorem modD_ok {i j : Int} [p : Ps j] : modD (.int i) (.int j) = some (.v (.int (i % j))) := by
  have h4 := p.pos
  show (if j = 0 then none else some (Vn.v (D.int (i.fmod j)))) = _
  rw [if_neg (by omega), Int.fmod_eq_emod_of_nonneg _ (by omega)]
theorem addD_i (i j : Int) : addD (.int i) (.int j) = some (.v (.int (i + j))) := nr rfl
theorem subD_i (i j : Int) : subD (.int i) (.int j) = some (.v (.int (i - j))) := nr rfl
theorem negD_i (i : Int) : negD (.int i) = some (.v (.int (-i))) := nr rfl
theorem ltD_i (i j : Int) : ltD (.int i) (.int j) = some (.v (.bl (decide (i < j)))) := nr rfl
theorem leD_i (i j : Int) : leD (.int i) (.int j) = some (.v (.bl (decide (i ≤ j)))) := nr rfl
theorem gtD_i (i j : Int) : gtD (.int i) (.int j) = some (.v (.bl (decide (j < i)))) := nr rfl
theorem geD_i (i j : Int) : geD (.int i) (.int j) = some (.v (.bl (decide (j ≤ i)))) := nr rfl
theorem eqD_i (i j : Int) : eqD (.int i) (.int j) = some (.v (.bl (decide (i = j)))) := by
  unfold eqD
  simp only [D.sh, D.eqv, Bool.and_self, if_true]
  rfl
theorem neD_i (i j : Int) : neD (.int i) (.int j) = some (.v (.bl (decide (i ≠ j)))) := by
  unfold neD
  simp only [D.sh, D.eqv, Bool.and_self, if_true, decide_not]
  rfl
theorem eqD_b (i j : Bool) : eqD (.bl i) (.bl j) = some (.v (.bl (i == j))) := by
  unfold eqD
  simp only [D.sh, D.eqv, Bool.and_self, if_true]
theorem neD_b (i j : Bool) : neD (.bl i) (.bl j) = some (.v (.bl (!(i == j)))) := by
  unfold neD
  simp only [D.sh, D.eqv, Bool.and_self, if_true]
theorem powD_i (i j : Int) (h : (decide (0 ≤ j) && (decide (j ≤ 1000000) && decide (i.natAbs < 2 ^ 64))) = true) : powD (.int i) (.int j) = some (.v (.int (i ^ j.toNat))) := by
  simp only [Bool.and_eq_true, decide_eq_true_eq] at h
  unfold powD
  exact if_pos h

/-! ### tuples and lists: equality -/
theorem eqv_int (i j : Int) : D.eqv (.int i) (.int j) = decide (i = j) := nr rfl
theorem eqv_tup (l m : List D) : D.eqv (.tup l) (.tup m) = D.eqvs l m := by simp only [D.eqv]
theorem eqv_lst (l m : List D) : D.eqv (.lst l) (.lst m) = D.eqvs l m := by simp only [D.eqv]
theorem eqvs_nil : D.eqvs [] [] = true := by simp only [D.eqvs]
theorem eqvs_cons (x y : D) (l m : List D) : D.eqvs (x :: l) (y :: m) = (D.eqv x y && D.eqvs l m) := by simp only [D.eqvs]
theorem eqvs_nc (y : D) (m : List D) : D.eqvs [] (y :: m) = false := by simp only [D.eqvs]
theorem eqvs_cn (y : D) (m : List D) : D.eqvs (y :: m) [] = false := by simp only [D.eqvs]
theorem sh_int (n : Nat) (i : Int) : D.sh n (.int i) = true := by cases n <;> simp only [D.sh]
theorem sh_bl (n : Nat) (i : Bool) : D.sh n (.bl i) = true := by cases n <;> simp only [D.sh]
theorem sh_non (n : Nat) : D.sh n .non = true := by cases n <;> simp only [D.sh]
theorem sh_tup (n : Nat) (l : List D) : D.sh (n + 1) (.tup l) = D.shs n l := by simp only [D.sh]
theorem sh_lst (n : Nat) (l : List D) : D.sh (n + 1) (.lst l) = D.shs n l := by simp only [D.sh]
theorem shs_nil (n : Nat) : D.shs n [] = true := by simp only [D.shs]
theorem shs_cons (n : Nat) (d : D) (l : List D) : D.shs n (d :: l) = (D.sh n d && D.shs n l) := by simp only [D.shs]
theorem shs_map {α : Type} (n : Nat) (k : α → D) : ∀ l : List α, (∀ x ∈ l, (k x).sh n = true) → D.shs n (l.map k) = true
  | [], _ => shs_nil n
  | x :: l, h => by
    rw [List.map_cons, shs_cons, h x (List.mem_cons_self ..), shs_map n k l fun y hy => h y (List.mem_cons_of_mem _ hy)]
    rfl
theorem eqD_tt (l m : List D) : eqD (.tup l) (.tup m) = if D.shs 59 l && D.shs 59 m then some (.v (.bl (D.eqvs l m))) else none := by
  unfold eqD
  rw [sh_tup, sh_tup, eqv_tup]
theorem eqD_ll (l m : List D) : eqD (.lst l) (.lst m) = if D.shs 59 l && D.shs 59 m then some (.v (.bl (D.eqvs l m))) else none := by
  unfold eqD
  rw [sh_lst, sh_lst, eqv_lst]
theorem neD_tt (l m : List D) : neD (.tup l) (.tup m) = if D.shs 59 l && D.shs 59 m then some (.v (.bl (!D.eqvs l m))) else none := by
  unfold neD
  rw [sh_tup, sh_tup, eqv_tup]
theorem neD_ll (l m : List D) : neD (.lst l) (.lst m) = if D.shs 59 l && D.shs 59 m then some (.v (.bl (!D.eqvs l m))) else none := by
  unfold neD
  rw [sh_lst, sh_lst, eqv_lst]
theorem in_tup (d : D) (l : List D) : inD d (.tup l) = if D.sh 60 d && D.shs 59 l then some (.v (.bl (l.any fun z => D.eqv z d))) else none := by
  have h : inB d (.tup l) = if D.sh 60 d && D.shs 59 l then some (l.any fun z => D.eqv z d) else none := by cases d <;> rfl
  unfold inD
  rw [h]
  split <;> rfl
theorem in_tt (k l : List D) : inD (.tup k) (.tup l) = if D.shs 59 k && D.shs 59 l then some (.v (.bl (l.any fun z => D.eqv z (.tup k)))) else none := by
  rw [in_tup, sh_tup]
/-- data of the like of d: comparing is equality -/
class Eqv (d e : D) (b : outParam Bool) : Prop where
  sh1 : ∀ n, 8 ≤ n → d.sh n = true
  sh2 : ∀ n, 8 ≤ n → e.sh n = true
  eq : D.eqv d e = b
theorem eqD_of {d e : D} {b : Bool} [h : Eqv d e b] : eqD d e = some (.v (.bl b)) := by
  unfold eqD
  rw [h.sh1 60 (by omega), h.sh2 60 (by omega), h.eq]
  rfl
theorem neD_of {d e : D} {b : Bool} [h : Eqv d e b] : neD d e = some (.v (.bl (!b))) := by
  unfold neD
  rw [h.sh1 60 (by omega), h.sh2 60 (by omega), h.eq]
  rfl

/-! ### expressions -/
theorem vr_z (s : Slot) (e : En) : vr 0 (s :: e) = s.val.map Rs.v := nr rfl
theorem vr_s (i : Nat) (s : Slot) (e : En) : vr (i + 1) (s :: e) = vr i e := nr rfl
theorem val_sh (d : D) : (Slot.sh d).val = some d := nr rfl
theorem val_own (d : D) : (Slot.own d).val = some d := nr rfl
theorem cC_e (d : D) (e : En) : cC d e = some (.v d) := nr rfl
theorem bind_v (d : D) (k : D → Option Rs) : bindR (some (.v d)) k = k d := by cases d <;> rfl
theorem bind_n (d : D) (k : D → Option Rs) : bindR (some (.n d)) k = k d := by cases d <;> rfl
theorem bind_x (d : D) (k : D → Option Rs) : bindR (some (.x d)) k = some (.x d) := nr rfl
theorem bind_ite {c : Prop} [Decidable c] (a b : Option Rs) (k : D → Option Rs) : bindR (if c then a else b) k = if c then bindR a k else bindR b k := by split <;> rfl
theorem cOp_e (g : D → D → Option Vn) (a b : Ev) (env : En) : cOp g a b env = bindR (a env) fun x => bindR (b env) fun y => (g x y).map Vn.r := nr rfl
theorem cUn_e (g : D → Option Vn) (a : Ev) (env : En) : cUn g a env = bindR (a env) fun x => (g x).map Vn.r := nr rfl
theorem map_some {α β : Type} (f : α → β) (x : α) : Option.map f (some x) = some (f x) := nr rfl
theorem r_v (d : D) : Vn.r (.v d) = .v d := nr rfl
theorem r_n (d : D) : Vn.r (.n d) = .n d := nr rfl
theorem d_v (d : D) : Vn.d (.v d) = d := nr rfl
theorem d_n (d : D) : Vn.d (.n d) = d := nr rfl
def consL (d : D) (r : Option Rl) : Option Rl := r.map fun r => match r with | .ok ds => .ok (d :: ds) | .x e => .x e
def headL (r : Option Rs) (t : Option Rl) : Option Rl := match r with
  | none => none
  | some (.x e) => some (.x e)
  | some (.v d) => consL d t
  | some (.n d) => consL d t
theorem evs_n (e : En) : evs [] e = some (.ok []) := nr rfl
theorem evs_c (f : Ev) (fs : List Ev) (e : En) : evs (f :: fs) e = headL (f e) (evs fs e) := nr rfl
theorem headL_v (d : D) (t : Option Rl) : headL (some (.v d)) t = consL d t := nr rfl
theorem headL_n (d : D) (t : Option Rl) : headL (some (.n d)) t = consL d t := nr rfl
theorem headL_x (d : D) (t : Option Rl) : headL (some (.x d)) t = some (.x d) := nr rfl
theorem consL_ok (d : D) (ds : List D) : consL d (some (.ok ds)) = some (.ok (d :: ds)) := nr rfl
theorem consL_x (d e : D) : consL d (some (.x e)) = some (.x e) := nr rfl
theorem bindL_ok (ds : List D) (k : List D → Option Rs) : bindL (some (.ok ds)) k = k ds := by cases ds <;> rfl
theorem bindL_x (d : D) (k : List D → Option Rs) : bindL (some (.x d)) k = some (.x d) := nr rfl
theorem cCall_e (φ : List D → Option Rs) (fs : List Ev) (e : En) : cCall φ fs e = bindL (evs fs e) φ := nr rfl
theorem cCB_e (g : List D → Option Vn) (fs : List Ev) (e : En) : cCB g fs e = bindL (evs fs e) fun ds => (g ds).map Vn.r := nr rfl
def pure0 (r : Option Rs) : Option Rs := match r with
  | some (.v d) => some (.v d)
  | some (.n d) => some (.n d)
  | _ => none
theorem cCall0_e (φ : List D → Option Rs) (e : En) : cCall0 φ e = pure0 (φ []) := nr rfl
theorem pure0_v (d : D) : pure0 (some (.v d)) = some (.v d) := nr rfl
theorem pure0_n (d : D) : pure0 (some (.n d)) = some (.n d) := nr rfl
theorem cTup_e (fs : List Ev) (e : En) : cTup fs e = bindL (evs fs e) fun ds => if ds.length ≤ 16777216 then some (.v (.tup ds)) else none := nr rfl
theorem cLst_e (fs : List Ev) (e : En) : cLst fs e = bindL (evs fs e) fun ds => if ds.length ≤ 16777216 then some (.n (.lst ds)) else none := nr rfl
def truR (r : Option Rs) (k : D → Bool → Option Rs) : Option Rs := bindR r fun d => (truD d).bind (k d)
theorem cOr_e (f g : Ev) (e : En) : cOr f g e = bindR (f e) fun d => (truD d).bind fun b => if b then some (.v d) else g e := by
  unfold cOr
  congr 1
  funext d
  rcases truD d with _ | _ | _ <;> rfl
theorem cAnd_e (f g : Ev) (e : En) : cAnd f g e = bindR (f e) fun d => (truD d).bind fun b => if b then g e else some (.v d) := by
  unfold cAnd
  congr 1
  funext d
  rcases truD d with _ | _ | _ <;> rfl
theorem cNot_e (f : Ev) (e : En) : cNot f e = bindR (f e) fun d => (truD d).map fun b => .v (.bl (!b)) := nr rfl
theorem cIs_e (g : D → Option Bool) (f : Ev) (e : En) : cIs g f e = bindR (f e) fun d => (g d).map fun b => .v (.bl b) := nr rfl
theorem obind_some {α β : Type} (x : α) (f : α → Option β) : Option.bind (some x) f = f x := nr rfl
theorem tru_bl (b : Bool) : truD (.bl b) = some b := nr rfl
theorem tru_int (i : Int) : truD (.int i) = some (decide (i ≠ 0)) := by
  show some (!(decide (i = 0))) = _
  rw [decide_not]
theorem tru_non : truD .non = some false := nr rfl
theorem tru_tup (l : List D) : truD (.tup l) = some (!l.isEmpty) := nr rfl
theorem tru_lst (l : List D) : truD (.lst l) = some (!l.isEmpty) := nr rfl
def iteR (r : Option Rt) (a b : Option Rs) : Option Rs := match r with
  | some (.ok true) => a
  | some (.ok false) => b
  | some (.x e) => some (.x e)
  | none => none
theorem cIte_e (c : Tv) (f g : Ev) (e : En) : cIte c f g e = iteR (c e) (f e) (g e) := by
  unfold cIte iteR
  rcases c e with _ | (_ | _) | _ <;> rfl
theorem iteR_ok (b : Bool) (x y : Option Rs) : iteR (some (.ok b)) x y = if b then x else y := by cases b <;> rfl
def chR (o : Option Vn) (k : Option Rs) : Option Rs := match o with
  | some (.v (.bl true)) => k
  | some (.v (.bl false)) => some (.v (.bl false))
  | _ => none
theorem cChain_e (g g' : D → D → Option Vn) (f1 f2 f3 : Ev) (e : En) : cChain g g' f1 f2 f3 e = bindR (f1 e) fun x => bindR (f2 e) fun y => chR (g x y) (bindR (f3 e) fun z => (g' y z).map Vn.r) := by
  unfold cChain
  congr 1
theorem chR_b (b : Bool) (k : Option Rs) : chR (some (.v (.bl b))) k = if b then k else some (.v (.bl false)) := by cases b <;> rfl

/-! ### tests -/
def tvR (r : Option Rs) : Option Rt := match r with
  | none => none
  | some (.x e) => some (.x e)
  | some (.v d) => (truD d).map .ok
  | some (.n d) => (truD d).map .ok
theorem tVal_e (f : Ev) (e : En) : tVal f e = tvR (f e) := by
  unfold tVal tvR
  rcases f e with _ | _ | _ | _ <;> rfl
theorem tvR_v (d : D) : tvR (some (.v d)) = (truD d).map .ok := nr rfl
theorem tvR_n (d : D) : tvR (some (.n d)) = (truD d).map .ok := nr rfl
theorem tvR_x (d : D) : tvR (some (.x d)) = some (.x d) := nr rfl
def tbR (r : Option Rs) : Option Rt := match r with
  | some (.x e) => some (.x e)
  | some (.v (.bl b)) => some (.ok b)
  | _ => none
theorem tBl_e (f : Ev) (e : En) : tBl f e = tbR (f e) := by
  unfold tBl tbR
  rcases f e with _ | _ | _ | _ <;> rfl
theorem tbR_b (b : Bool) : tbR (some (.v (.bl b))) = some (.ok b) := nr rfl
def ntR (r : Option Rt) : Option Rt := match r with
  | some (.ok b) => some (.ok (!b))
  | r => r
theorem tNot_e (c : Tv) (e : En) : tNot' c e = ntR (c e) := by
  unfold tNot' ntR
  rcases c e with _ | (_ | _) | _ <;> rfl
theorem ntR_ok (b : Bool) : ntR (some (.ok b)) = some (.ok (!b)) := nr rfl
def anR (r s : Option Rt) : Option Rt := match r with
  | some (.ok true) => s
  | r => r
theorem tAnd_e (c d : Tv) (e : En) : tAnd' c d e = anR (c e) (d e) := by
  unfold tAnd' anR
  rcases c e with _ | (_ | _) | _ <;> rfl
theorem anR_ok (b b' : Bool) : anR (some (.ok b)) (some (.ok b')) = some (.ok (b && b')) := by cases b <;> rfl
theorem anR_t (s : Option Rt) : anR (some (.ok true)) s = s := nr rfl
theorem anR_f (s : Option Rt) : anR (some (.ok false)) s = some (.ok false) := nr rfl
def orR (r s : Option Rt) : Option Rt := match r with
  | some (.ok false) => s
  | r => r
theorem tOr_e (c d : Tv) (e : En) : tOr' c d e = orR (c e) (d e) := by
  unfold tOr' orR
  rcases c e with _ | (_ | _) | _ <;> rfl
theorem orR_ok (b b' : Bool) : orR (some (.ok b)) (some (.ok b')) = some (.ok (b || b')) := by cases b <;> rfl
theorem orR_t (s : Option Rt) : orR (some (.ok true)) s = some (.ok true) := nr rfl
theorem orR_f (s : Option Rt) : orR (some (.ok false)) s = s := nr rfl
theorem tYes_e (e : En) : tYes' e = some (.ok true) := nr rfl

/-! ### calls of builtins -/
theorem len_tup (l : List D) : lenC [.tup l] = some (.v (.int l.length)) := nr rfl
theorem len_lst (l : List D) : lenC [.lst l] = some (.v (.int l.length)) := nr rfl
theorem len_scr (l : List D) : lenC [.scr l] = some (.v (.int l.length)) := nr rfl
theorem abs_i (i : Int) : absC [.int i] = some (.v (.int (if i < 0 then -i else i))) := nr rfl
theorem sum_l (l : List D) : sumC [.lst l] = (D.ints l).map fun ns => .v (.int ns.sum) := nr rfl
theorem all_l (l : List D) : allC [.lst l] = (D.bls l).map fun ns => .v (.bl (ns.all id)) := nr rfl
theorem tuple_l (l : List D) : tupleC [.lst l] = some (.v (.tup l)) := nr rfl
theorem tuple_t (l : List D) : tupleC [.tup l] = some (.v (.tup l)) := nr rfl
theorem tuple_s (l : List D) : tupleC [.scr l] = some (.v (.tup l)) := nr rfl
theorem list_l (l : List D) : listC [.lst l] = some (.n (.lst l)) := nr rfl
theorem list_t (l : List D) : listC [.tup l] = some (.n (.lst l)) := nr rfl
theorem list_s (l : List D) : listC [.scr l] = some (.n (.lst l)) := nr rfl
theorem ints_n : D.ints [] = some [] := nr rfl
theorem ints_c (i : Int) (r : List D) : D.ints (.int i :: r) = (D.ints r).map (i :: ·) := nr rfl
theorem ints_m : ∀ l : List Int, D.ints (l.map .int) = some l
  | [] => rfl
  | i :: l => by rw [List.map_cons, ints_c, ints_m l]; rfl
theorem bls_n : D.bls [] = some [] := nr rfl
theorem bls_c (i : Bool) (r : List D) : D.bls (.bl i :: r) = (D.bls r).map (i :: ·) := nr rfl
theorem bls_m : ∀ l : List Bool, D.bls (l.map .bl) = some l
  | [] => rfl
  | i :: l => by rw [List.map_cons, bls_c, bls_m l]; rfl
theorem isInt_i (i : Int) : isIntD (.int i) = some true := nr rfl
theorem isBool_i (i : Int) : isBoolD (.int i) = some false := nr rfl
theorem isInt_b (b : Bool) : isIntD (.bl b) = some true := nr rfl
theorem isInt_n : isIntD .non = some false := nr rfl
theorem isInt_s (x : Str) : isIntD (.str x) = some false := nr rfl
theorem isInt_t (l : List D) : isIntD (.tup l) = some false := nr rfl
theorem isInt_l (l : List D) : isIntD (.lst l) = some false := nr rfl
theorem isBool_b (b : Bool) : isBoolD (.bl b) = some true := nr rfl
theorem isBool_n : isBoolD .non = some false := nr rfl
theorem isBool_s (x : Str) : isBoolD (.str x) = some false := nr rfl
theorem isBool_t (l : List D) : isBoolD (.tup l) = some false := nr rfl
theorem isBool_l (l : List D) : isBoolD (.lst l) = some false := nr rfl
theorem isTup_i (i : Int) : isTupD (.int i) = some false := nr rfl
theorem isTup_b (b : Bool) : isTupD (.bl b) = some false := nr rfl
theorem isTup_n : isTupD .non = some false := nr rfl
theorem isTup_s (x : Str) : isTupD (.str x) = some false := nr rfl
theorem isTup_l (l : List D) : isTupD (.lst l) = some false := nr rfl
theorem isLst_l (l : List D) : isLstD (.lst l) = some true := nr rfl
theorem isLst_t (l : List D) : isLstD (.tup l) = some false := nr rfl
theorem isLst_i (i : Int) : isLstD (.int i) = some false := nr rfl
theorem isLst_n : isLstD .non = some false := nr rfl
theorem isStr_s (x : Str) : isStrD (.str x) = some true := nr rfl
theorem isStr_i (i : Int) : isStrD (.int i) = some false := nr rfl
theorem isStr_n : isStrD .non = some false := nr rfl
theorem isStr_t (l : List D) : isStrD (.tup l) = some false := nr rfl
theorem isStr_l (l : List D) : isStrD (.lst l) = some false := nr rfl
theorem isTup_t (l : List D) : isTupD (.tup l) = some true := nr rfl

def anyR (b : Option (List Bool)) (i : Option (List Int)) : Option Vn := match b with
  | some bs => some (.v (.bl (bs.any id)))
  | none => i.map fun ns => .v (.bl (ns.any (· != 0)))
theorem any_l (l : List D) : anyC [.lst l] = anyR (D.bls l) (D.ints l) := nr rfl
theorem anyR_b (bs : List Bool) (i : Option (List Int)) : anyR (some bs) i = some (.v (.bl (bs.any id))) := nr rfl
theorem anyR_i (ns : List Int) : anyR none (some ns) = some (.v (.bl (ns.any (· != 0)))) := nr rfl
theorem bls_i (i : Int) (r : List D) : D.bls (.int i :: r) = none := nr rfl
theorem divmod_ok {i j : Int} {n : Nat} [p : Ps j] [b : SzC j n] (h : n ≤ 8999) : divmodC [.int i, .int j] = some (.v (.tup [.int (i / j), .int (i % j)])) := by
  have h3 := log2_le_of (x := j)
  show (if 0 < j ∧ j.natAbs.log2 < 9000 then _ else _) = _
  rw [if_pos ⟨p.pos, by omega⟩]
def lsR (d : D) : Option Rs := match d with
  | .lst l => (D.ints l).bind fun ns => if ns.length ≤ 4000 then some (.v (.int (nubN ns : Nat))) else none
  | _ => none
theorem lenSet_e (f : Ev) (env : En) : cLenSet f env = bindR (f env) lsR := nr rfl
theorem lsR_l (l : List D) : lsR (.lst l) = (D.ints l).bind fun ns => if ns.length ≤ 4000 then some (.v (.int (nubN ns : Nat))) else none := nr rfl
/-- four ints, all even or all odd -/
theorem nub4 (a b c d : Int) : (nubN [a, b, c, d] : Int) = 1 ↔ a = b ∧ a = c ∧ a = d := by
  have h : nubN [a, b, c, d] = (List.foldl (fun s x => if s.any (· == x) then s else s ++ [x]) [] [a, b, c, d]).length := rfl
  rw [h]
  simp only [List.foldl_cons, List.foldl_nil, List.any_nil, Bool.false_eq_true, if_false, List.nil_append, List.any_cons, Bool.or_false, beq_iff_eq]
  by_cases h1 : a = b
  · subst h1
    simp only [if_true, List.any_cons, List.any_nil, Bool.or_false, beq_iff_eq]
    by_cases h2 : a = c
    · subst h2
      simp only [if_true, List.any_cons, List.any_nil, Bool.or_false, beq_iff_eq, true_and]
      by_cases h3 : a = d
      · simp [h3]
      · simp [h3]
    · simp only [h2, if_false, false_and, and_false, iff_false]
      split <;> simp
  · simp only [h1, if_false, false_and, iff_false]
    split <;> split <;> simp <;> omega

/-! ### subscripts -/
theorem atI_nat {α : Type} (l : List α) (k : Nat) : atI l (k : Int) = l[k]? := by
  unfold atI ixN
  rw [if_pos (by omega)]
  by_cases h : k < l.length
  · rw [if_pos (by omega)]; rfl
  · rw [if_neg (by omega), List.getElem?_eq_none (by omega)]; rfl
theorem atI_lit {α : Type} (l : List α) (k : Nat) : atI l (no_index (@OfNat.ofNat Int k instOfNat)) = l[k]? := atI_nat l k
theorem atI_pos {α : Type} (l : List α) (k : Int) (h : 0 ≤ k) : atI l k = l[k.toNat]? := by
  have := atI_nat l k.toNat
  rwa [Int.toNat_of_nonneg h] at this
theorem atI_2 {α : Type} (a b : α) (k : Int) (h0 : 0 ≤ k) (h1 : k < 2) : atI [a, b] k = some (if k = 0 then a else b) := by
  rcases (show k = 0 ∨ k = 1 by omega) with h | h <;> subst h <;> rfl
theorem atI_3 {α : Type} (a b c : α) (k : Int) (h0 : 0 ≤ k) (h1 : k < 3) : atI [a, b, c] k = some (if k = 0 then a else if k = 1 then b else c) := by
  rcases (show k = 0 ∨ k = 1 ∨ k = 2 by omega) with h | h | h <;> subst h <;> rfl
theorem atI_4 {α : Type} (a b c d : α) (k : Int) (h0 : 0 ≤ k) (h1 : k < 4) : atI [a, b, c, d] k = some (if k = 0 then a else if k = 1 then b else if k = 2 then c else d) := by
  rcases (show k = 0 ∨ k = 1 ∨ k = 2 ∨ k = 3 by omega) with h | h | h | h <;> subst h <;> rfl
theorem atI_mp {α : Type} (f : α → D) (l : List α) (k : Int) (d : α) (h0 : 0 ≤ k) (h1 : k < l.length) : atI (l.map f) k = some (f (l.getD k.toNat d)) := by
  rw [atI_pos _ _ h0, List.getElem?_map, List.getD_eq_getElem?_getD, List.getElem?_eq_getElem (by omega)]
  rfl
theorem ixN_pos (n : Nat) (k : Int) (h0 : 0 ≤ k) (h1 : k < n) : ixN n k = some k.toNat := by
  unfold ixN
  rw [if_pos h0, if_pos h1]
theorem set_map {α : Type} (f : α → D) (l : List α) (k : Nat) (x : α) : (l.map f).set k (f x) = (l.set k x).map f := List.map_set.symm
theorem set4 {α : Type} (a b c d x : α) (k : Int) (h0 : 0 ≤ k) (h1 : k < 4) : [a, b, c, d].set k.toNat x = [if k = 0 then x else a, if k = 1 then x else b, if k = 2 then x else c, if k = 3 then x else d] := by
  rcases (show k = 0 ∨ k = 1 ∨ k = 2 ∨ k = 3 by omega) with h | h | h | h <;> subst h <;> rfl
theorem app_sing {α β : Type} (f : α → β) (l : List α) (x : α) : l.map f ++ [f x] = (l ++ [x]).map f := by rw [List.map_append]; rfl
theorem cons_map {α β : Type} (f : α → β) (l : List α) (x : α) : f x :: l.map f = (x :: l).map f := nr rfl
theorem ixN_nat (n k : Nat) : ixN n (k : Int) = if k < n then some k else none := by
  unfold ixN
  rw [if_pos (by omega)]
  by_cases h : k < n
  · rw [if_pos (by omega), if_pos h]; rfl
  · rw [if_neg (by omega), if_neg h]
theorem ixN_lit (n k : Nat) : ixN n (no_index (@OfNat.ofNat Int k instOfNat)) = if k < n then some k else none := ixN_nat n k
theorem xorD_i (i j : Int) : xorD (.int i) (.int j) = some (.v (.int (Builtin.bitXor i j))) := nr rfl
theorem xor_00 : Builtin.bitXor 0 0 = 0 := by decide +kernel
theorem xor_01 : Builtin.bitXor 0 1 = 1 := by decide +kernel
theorem xor_02 : Builtin.bitXor 0 2 = 2 := by decide +kernel
theorem xor_03 : Builtin.bitXor 0 3 = 3 := by decide +kernel
theorem xor_10 : Builtin.bitXor 1 0 = 1 := by decide +kernel
theorem xor_11 : Builtin.bitXor 1 1 = 0 := by decide +kernel
theorem xor_12 : Builtin.bitXor 1 2 = 3 := by decide +kernel
theorem xor_13 : Builtin.bitXor 1 3 = 2 := by decide +kernel
theorem xor_20 : Builtin.bitXor 2 0 = 2 := by decide +kernel
theorem xor_21 : Builtin.bitXor 2 1 = 3 := by decide +kernel
theorem xor_22 : Builtin.bitXor 2 2 = 0 := by decide +kernel
theorem xor_23 : Builtin.bitXor 2 3 = 1 := by decide +kernel
theorem xor_30 : Builtin.bitXor 3 0 = 3 := by decide +kernel
theorem xor_31 : Builtin.bitXor 3 1 = 2 := by decide +kernel
theorem xor_32 : Builtin.bitXor 3 2 = 1 := by decide +kernel
theorem xor_33 : Builtin.bitXor 3 3 = 0 := by decide +kernel
theorem ix_tup (l : List D) (i : Int) : ixD (.tup l) (.int i) = (atI l i).map .v := nr rfl
theorem ix_lst (l : List D) (i : Int) : ixD (.lst l) (.int i) = (atI l i).map .v := nr rfl
theorem ix_scr (l : List D) (i : Int) : ixD (.scr l) (.int i) = (atI l i).map .v := nr rfl
theorem get_z {α : Type} (a : α) (l : List α) : (a :: l)[0]? = some a := nr rfl
theorem get_s {α : Type} (a : α) (l : List α) (n : Nat) : (a :: l)[n + 1]? = l[n]? := nr rfl

theorem slice_e (f : Ev) (lo hi : Sp1) (env : En) : cSl f lo hi env = bindR (f env) fun d => lo.run env fun l => hi.run env fun h => (slD d l h).map Vn.r := nr rfl
def spR (r : Option Rs) (k : Option Int → Option Rs) : Option Rs := bindR r fun d => match d with
  | .int i => k (some i)
  | _ => none
theorem sp_no (env : En) (k : Option Int → Option Rs) : Sp1.run .no env k = k none := nr rfl
theorem sp_at (f : Ev) (env : En) (k : Option Int → Option Rs) : Sp1.run (.at f) env k = spR (f env) k := by
  unfold Sp1.run spR
  congr 1
theorem spR_i (i : Int) (k : Option Int → Option Rs) : spR (some (.v (.int i))) k = k (some i) := nr rfl
theorem slD_t (l : List D) (lo hi : Option Int) : slD (.tup l) lo hi = some (.v (.tup (cutG l lo hi))) := by unfold slD; rfl
theorem slD_l (l : List D) (lo hi : Option Int) : slD (.lst l) lo hi = some (.n (.lst (cutG l lo hi))) := by unfold slD; rfl
theorem cutG_map {α β : Type} (f : α → β) (l : List α) (lo hi : Option Int) : cutG (l.map f) lo hi = (cutG l lo hi).map f := by
  unfold cutG
  rw [List.length_map, List.map_take, List.map_drop]
theorem app_map {α β : Type} (f : α → β) (l m : List α) : l.map f ++ m.map f = (l ++ m).map f := List.map_append.symm
theorem j_map {α β : Type} {c : Prop} [Decidable c] (f : α → β) (l m : List α) : (if c then l.map f else m.map f) = (if c then l else m).map f := by split <;> rfl
theorem addD_l (x y : List D) : addD (.lst x) (.lst y) = if x.length + y.length ≤ 16777216 then some (.n (.lst (x ++ y))) else none := nr rfl
theorem addD_t (x y : List D) : addD (.tup x) (.tup y) = if x.length + y.length ≤ 16777216 then some (.v (.tup (x ++ y))) else none := nr rfl
theorem take_map {α β : Type} (f : α → β) (l : List α) (k : Nat) : (l.map f).take k = (l.take k).map f := List.map_take.symm
theorem drop_map {α β : Type} (f : α → β) (l : List α) (k : Nat) : (l.map f).drop k = (l.drop k).map f := List.map_drop.symm
theorem cutG_take {α : Type} (l : List α) (k : Int) (h : 0 ≤ k) : cutG l none (some k) = l.take k.toNat := by
  unfold cutG HT.sIx
  simp only [if_neg (Int.not_lt.2 h), List.drop_zero, Nat.sub_zero]
  rw [List.take_eq_take_iff]
  omega
theorem cutG_drop {α : Type} (l : List α) (k : Int) (h : 0 ≤ k) : cutG l (some k) none = l.drop k.toNat := by
  unfold cutG HT.sIx
  simp only [if_neg (Int.not_lt.2 h)]
  by_cases h1 : k.toNat ≤ l.length
  · rw [Nat.min_eq_left h1, List.take_of_length_le]
    rw [List.length_drop]
    exact Nat.le_refl _
  · rw [Nat.min_eq_right (by omega), Nat.sub_self, List.take_zero, List.drop_eq_nil_of_le (by omega)]

theorem fld_e (cs : List Str) (n : Str) (f : Ev) (env : En) : cFld cs n f env = bindR (f env) fun d => (fldD cs n d).map Vn.r := nr rfl
theorem meth_e (m : Str) (tbl : List (Str × (List D → Option Rs))) (o : Ev) (fs : List Ev) (env : En) : cMeth m tbl o fs env = bindR (o env) (methR m tbl fs env) := nr rfl
theorem make_e (C fld : Str) (φ : List D → Option Rs) (fs : List Ev) (env : En) : cMake C fld φ fs env = bindL (evs fs env) fun ds => insR C fld (φ ds) := nr rfl
theorem insR_v (C fld : Str) (d : D) : insR C fld (some (.v d)) = some (.v (.ins C [(fld, d)])) := nr rfl
theorem insR_n (C fld : Str) (d : D) : insR C fld (some (.n d)) = some (.v (.ins C [(fld, d)])) := nr rfl
def isCR (tbl : List (Str × Bool)) (d : D) : Option Rs := match d with
  | .ins C _ => (tbl.lookup C).map fun b => .v (.bl b)
  | _ => none
theorem isC_e (tbl : List (Str × Bool)) (f : Ev) (env : En) : cIsC tbl f env = bindR (f env) (isCR tbl) := by
  unfold cIsC
  congr 1
theorem initB_e (np n : Nat) (F : Ev) (ds : List D) : initB np n F ds = if ds.length = np then F (.un :: envOf n ds) else none := nr rfl
theorem flat_ins (C : Str) (gs : List (Str × D)) : D.flat (.ins C gs) = false := by simp only [D.flat]

/-! ### statements -/
def fin : Option Out → Option Rs
  | some (.rt u) => some u.r
  | some (.nx _) => some (.v .non)
  | some (.x e _) => some (.x e)
  | _ => none
theorem runB_e (np n : Nat) (F : Sm) (ds : List D) : runB np n F ds = if ds.length = np then fin (F (envOf n ds)) else none := by
  unfold runB
  split <;> rfl
theorem envOf_e (n : Nat) (ds : List D) : envOf n ds = ds.map Slot.sh ++ List.replicate (n - ds.length) Slot.un := nr rfl
theorem fin_rt (u : Vn) : fin (some (.rt u)) = some u.r := nr rfl
theorem fin_nx (e : En) : fin (some (.nx e)) = some (.v .non) := nr rfl
theorem fin_x (d : D) (e : En) : fin (some (.x d e)) = some (.x d) := nr rfl
theorem fin_ite {c : Prop} [Decidable c] (a b : Option Out) : fin (if c then a else b) = if c then fin a else fin b := by split <;> rfl
def seqR (r : Option Out) (G : Sm) : Option Out := match r with
  | some (.nx e) => G e
  | o => o
theorem seq_e (F G : Sm) (e : En) : cSeq F G e = seqR (F e) G := nr rfl
theorem seq_nx (e : En) (G : Sm) : seqR (some (.nx e)) G = G e := nr rfl
theorem seq_rt (u : Vn) (G : Sm) : seqR (some (.rt u)) G = some (.rt u) := nr rfl
theorem seq_bk (e : En) (G : Sm) : seqR (some (.bk e)) G = some (.bk e) := nr rfl
theorem seq_ct (e : En) (G : Sm) : seqR (some (.ct e)) G = some (.ct e) := nr rfl
theorem seq_x (d : D) (e : En) (G : Sm) : seqR (some (.x d e)) G = some (.x d e) := nr rfl
theorem seq_ite {c : Prop} [Decidable c] (a b : Option Out) (G : Sm) : seqR (if c then a else b) G = if c then seqR a G else seqR b G := by split <;> rfl
theorem nil_e (e : En) : cNil e = some (.nx e) := nr rfl
theorem mask_e (nm : List Nat) (e : En) : mask nm e = maskGo nm 0 e := nr rfl
theorem mask_n (nm : List Nat) (k : Nat) : maskGo nm k [] = [] := nr rfl
theorem mask_sh (nm : List Nat) (k : Nat) (d : D) (e : En) : maskGo nm k (.sh d :: e) = .sh d :: maskGo nm (k + 1) e := nr rfl
theorem mask_un (nm : List Nat) (k : Nat) (e : En) : maskGo nm k (.un :: e) = .un :: maskGo nm (k + 1) e := nr rfl
theorem mask_own (nm : List Nat) (k : Nat) (d : D) (e : En) : maskGo nm k (.own d :: e) = (if nm.contains k then .own d else .un) :: maskGo nm (k + 1) e := nr rfl
theorem mask_ite {c : Prop} [Decidable c] (nm : List Nat) (k : Nat) (s t : Slot) (e : En) : maskGo nm k ((if c then s else t) :: e) = (if c then maskS (nm.contains k) s else maskS (nm.contains k) t) :: maskGo nm (k + 1) e := by split <;> rfl
theorem frz_e (nm : List Nat) (e : En) : freeze nm e = frzGo nm 0 e := nr rfl
theorem frz_n (nm : List Nat) (k : Nat) : frzGo nm k [] = [] := nr rfl
theorem frz_sh (nm : List Nat) (k : Nat) (d : D) (e : En) : frzGo nm k (.sh d :: e) = .sh d :: frzGo nm (k + 1) e := nr rfl
theorem frz_un (nm : List Nat) (k : Nat) (e : En) : frzGo nm k (.un :: e) = .un :: frzGo nm (k + 1) e := nr rfl
theorem frz_own (nm : List Nat) (k : Nat) (d : D) (e : En) : frzGo nm k (.own d :: e) = (if nm.contains k then .sh d else .own d) :: frzGo nm (k + 1) e := nr rfl
theorem frz_ite {c : Prop} [Decidable c] (nm : List Nat) (k : Nat) (s t : Slot) (e : En) : frzGo nm k ((if c then s else t) :: e) = (if c then frzS (nm.contains k) s else frzS (nm.contains k) t) :: frzGo nm (k + 1) e := by split <;> rfl
def evxR (r : Option Rs) (nm : List Nat) (env : En) (k : Vn → En → Option Out) : Option Out := match r with
  | none => none
  | some (.x e) => if e.flatX then some (.x e env) else none
  | some (.v d) => if d.flat then k (.v d) env else k (.v d) (freeze nm env)
  | some (.n d) => if d.flatN then k (.n d) env else k (.n d) (freeze nm env)
theorem evx_e (nm : List Nat) (f : Ev) (env : En) (k : Vn → En → Option Out) : evx nm f env k = evxR (f (mask nm env)) nm env k := by
  unfold evx evxR
  rcases f (mask nm env) with _ | _ | _ | _ <;> rfl
/-- nothing to freeze -/
theorem maskGo_nil : ∀ (k : Nat) (e : En), frzGo [] k e = e
  | _, [] => rfl
  | k, s :: r => by
    rw [frzGo, maskGo_nil (k + 1) r]
    cases s <;> rfl
theorem frz_nil (e : En) : freeze [] e = e := maskGo_nil 0 e
theorem evxR_v0 (d : D) (env : En) (k : Vn → En → Option Out) : evxR (some (.v d)) [] env k = k (.v d) env := by
  show (if d.flat then _ else _) = _
  rw [frz_nil, ite_self]
theorem evxR_n0 (d : D) (env : En) (k : Vn → En → Option Out) : evxR (some (.n d)) [] env k = k (.n d) env := by
  show (if d.flatN then _ else _) = _
  rw [frz_nil, ite_self]
theorem evxR_v (d : D) (nm : List Nat) (env : En) (k : Vn → En → Option Out) : evxR (some (.v d)) nm env k = if d.flat then k (.v d) env else k (.v d) (freeze nm env) := nr rfl
theorem evxR_n (d : D) (nm : List Nat) (env : En) (k : Vn → En → Option Out) : evxR (some (.n d)) nm env k = if d.flatN then k (.n d) env else k (.n d) (freeze nm env) := nr rfl
theorem evxR_x (d : D) (nm : List Nat) (env : En) (k : Vn → En → Option Out) : evxR (some (.x d)) nm env k = if d.flatX then some (.x d env) else none := nr rfl
theorem evxR_ite {c : Prop} [Decidable c] (a b : Option Rs) (nm : List Nat) (env : En) (k : Vn → En → Option Out) : evxR (if c then a else b) nm env k = if c then evxR a nm env k else evxR b nm env k := by split <;> rfl
theorem set_e (i : Nat) (nm : List Nat) (f : Ev) (env : En) : cSet i nm f env = evxR (f (mask nm env)) nm env fun u env1 => some (.nx (env1.set i u.slot)) := evx_e _ _ _ _
theorem slot_v (d : D) : Vn.slot (.v d) = .sh d := nr rfl
theorem slot_n (d : D) : Vn.slot (.n d) = .own d := nr rfl
theorem lset_z {α : Type} (a b : α) (l : List α) : (a :: l).set 0 b = b :: l := nr rfl
theorem lset_s {α : Type} (a b : α) (l : List α) (n : Nat) : (a :: l).set (n + 1) b = a :: l.set n b := nr rfl
def setTR (is : List Nat) (u : Vn) (env : En) : Option Out := match u with
  | .v d => ((Tg.tu is).set d env).map .nx
  | _ => none
theorem setT_e (is : List Nat) (nm : List Nat) (f : Ev) (env : En) : cSetT is nm f env = evxR (f (mask nm env)) nm env (setTR is) := evx_e _ _ _ _
theorem setTR_v (is : List Nat) (d : D) (env : En) : setTR is (.v d) env = ((Tg.tu is).set d env).map .nx := nr rfl
theorem tgTu (is : List Nat) (ds : List D) (env : En) : (Tg.tu is).set (.tup ds) env = setAll is ds env := nr rfl
theorem tgNm (i : Nat) (d : D) (env : En) : (Tg.nm i).set d env = some (env.set i (.sh d)) := nr rfl
theorem setAll_n (env : En) : setAll [] [] env = some env := nr rfl
theorem setAll_c (i : Nat) (is : List Nat) (d : D) (ds : List D) (env : En) : setAll (i :: is) (d :: ds) env = setAll is ds (env.set i (.sh d)) := nr rfl
def retR (r : Option Rs) (env : En) : Option Out := match r with
  | none => none
  | some (.x e) => if e.flatX then some (.x e env) else none
  | some (.v d) => some (.rt (.v d))
  | some (.n d) => some (.rt (.n d))
theorem ret_e (nm : List Nat) (f : Ev) (env : En) : cRet nm f env = retR (f (mask nm env)) env := by
  unfold cRet retR
  rcases f (mask nm env) with _ | _ | _ | _ <;> rfl
theorem retR_v (d : D) (env : En) : retR (some (.v d)) env = some (.rt (.v d)) := nr rfl
theorem retR_n (d : D) (env : En) : retR (some (.n d)) env = some (.rt (.n d)) := nr rfl
theorem retR_x (d : D) (env : En) : retR (some (.x d)) env = if d.flatX then some (.x d env) else none := nr rfl
theorem retR_ite {c : Prop} [Decidable c] (a b : Option Rs) (env : En) : retR (if c then a else b) env = if c then retR a env else retR b env := by split <;> rfl
def retVR (s : Option Slot) : Option Out := match s with
  | some (.sh d) => some (.rt (.v d))
  | some (.own d) => some (.rt (.n d))
  | _ => none
theorem retV_e (i : Nat) (env : En) : cRetV i env = retVR (env[i]?) := by
  unfold cRetV retVR
  rcases env[i]? with _ | _ | _ | _ <;> rfl
theorem retVR_sh (d : D) : retVR (some (.sh d)) = some (.rt (.v d)) := nr rfl
theorem retVR_own (d : D) : retVR (some (.own d)) = some (.rt (.n d)) := nr rfl
theorem retN_e (e : En) : cRetN e = some (.rt (.v .non)) := nr rfl
theorem expr_e (nm : List Nat) (f : Ev) (env : En) : cExpr nm f env = evxR (f (mask nm env)) nm env fun _ env1 => some (.nx env1) := evx_e _ _ _ _
def ifR (r : Option Rt) (env : En) (a b : Option Out) : Option Out := match r with
  | none => none
  | some (.x e) => if e.flatX then some (.x e env) else none
  | some (.ok true) => a
  | some (.ok false) => b
theorem if_e (nm : List Nat) (c : Tv) (F G : Sm) (env : En) : cIf nm c F G env = ifR (c (mask nm env)) env (F env) (G env) := by
  unfold cIf ifR
  rcases c (mask nm env) with _ | (_ | _) | _ <;> rfl
theorem ifR_ok (b : Bool) (env : En) (x y : Option Out) : ifR (some (.ok b)) env x y = if b then x else y := by cases b <;> rfl
theorem ifR_t (env : En) (x y : Option Out) : ifR (some (.ok true)) env x y = x := nr rfl
theorem ifR_f (env : En) (x y : Option Out) : ifR (some (.ok false)) env x y = y := nr rfl
def parR (i j : Nat) (nm : List Nat) (env : En) : List D → Option Out
  | [d, e] => if d.flat && e.flat then some (.nx ((env.set i (.sh d)).set j (.sh e))) else some (.nx (((freeze nm env).set i (.sh d)).set j (.sh e)))
  | _ => none
def parL (i j : Nat) (nm : List Nat) (env : En) (r : Option Rl) : Option Out := match r with
  | some (.ok ds) => parR i j nm env ds
  | some (.x e) => if e.flatX then some (.x e env) else none
  | none => none
theorem par_e (i j : Nat) (nm : List Nat) (f g : Ev) (env : En) : cPar i j nm f g env = parL i j nm env (evs [f, g] (mask nm env)) := by
  unfold cPar parL
  rcases evs [f, g] (mask nm env) with _ | (_ | ⟨a, _ | ⟨b, _ | _⟩⟩) | _ <;> rfl
theorem parL_ok (i j : Nat) (nm : List Nat) (env : En) (d e : D) : parL i j nm env (some (.ok [d, e])) = if d.flat && e.flat then some (.nx ((env.set i (.sh d)).set j (.sh e))) else some (.nx (((freeze nm env).set i (.sh d)).set j (.sh e))) := nr rfl

theorem parL_0 (i j : Nat) (env : En) (d e : D) : parL i j [] env (some (.ok [d, e])) = some (.nx ((env.set i (.sh d)).set j (.sh e))) := by
  show (if d.flat && e.flat then _ else _) = _
  rw [frz_nil, ite_self]

/-! ### loops -/
def fstep (o : Option Out) (tg : Tg) (body : Sm) (r : List D) : Option Out := match o with
  | some (.nx e2) => forGo tg body e2 r
  | some (.ct e2) => forGo tg body e2 r
  | some (.bk e2) => some (.nx e2)
  | o => o
def fset (o : Option En) (tg : Tg) (body : Sm) (r : List D) : Option Out := match o with
  | none => none
  | some e1 => fstep (body e1) tg body r
theorem for_n (tg : Tg) (body : Sm) (env : En) : forGo tg body env [] = some (.nx env) := nr rfl
theorem for_c (tg : Tg) (body : Sm) (env : En) (d : D) (r : List D) : forGo tg body env (d :: r) = fset (tg.set d env) tg body r := by
  rw [forGo.eq_def]
  unfold fset fstep
  rfl
theorem fset_s (e : En) (tg : Tg) (body : Sm) (r : List D) : fset (some e) tg body r = fstep (body e) tg body r := nr rfl
theorem fstep_nx (e : En) (tg : Tg) (body : Sm) (r : List D) : fstep (some (.nx e)) tg body r = forGo tg body e r := nr rfl
theorem fstep_ct (e : En) (tg : Tg) (body : Sm) (r : List D) : fstep (some (.ct e)) tg body r = forGo tg body e r := nr rfl
theorem fstep_bk (e : En) (tg : Tg) (body : Sm) (r : List D) : fstep (some (.bk e)) tg body r = some (.nx e) := nr rfl
theorem fstep_rt (u : Vn) (tg : Tg) (body : Sm) (r : List D) : fstep (some (.rt u)) tg body r = some (.rt u) := nr rfl
theorem fstep_x (d : D) (e : En) (tg : Tg) (body : Sm) (r : List D) : fstep (some (.x d e)) tg body r = some (.x d e) := nr rfl
theorem fstep_ite {c : Prop} [Decidable c] (a b : Option Out) (tg : Tg) (body : Sm) (r : List D) : fstep (if c then a else b) tg body r = if c then fstep a tg body r else fstep b tg body r := by split <;> rfl
/-- a loop over a range: the frame behind k turns is e k -/
theorem for_rg {i : Nat} {body : Sm} : ∀ (n : Nat) (lo : Int) (e : Nat → En), (∀ k : Nat, k < n → body ((e k).set i (.sh (.int (lo + (k : Int))))) = some (.nx (e (k + 1)))) → forGo (.nm i) body (e 0) (rgD lo n) = some (.nx (e n))
  | 0, _, _, _ => rfl
  | n + 1, lo, e, h => by
    have h0 := h 0 (Nat.succ_pos n)
    rw [Int.natCast_zero, Int.add_zero] at h0
    have h1 := for_rg n (lo + 1) (fun k => e (k + 1)) fun k hk => by
      have := h (k + 1) (Nat.succ_lt_succ hk)
      rw [Int.natCast_add, Int.natCast_one, ← Int.add_assoc, Int.add_right_comm] at this
      exact this
    rw [show rgD lo (n + 1) = .int lo :: rgD (lo + 1) n from by
      unfold rgD
      rw [List.range_succ_eq_map, List.map_cons, List.map_map]
      congr 1
      · simp
      · apply List.map_congr_left
        intro a _
        simp only [Function.comp]
        congr 1
        omega, for_c, tgNm, fset_s, h0, fstep_nx]
    exact h1
/-- the name of a loop over a list, behind the items done -/
def lastS {α : Type} (f : α → D) (l : List α) : Slot := match l.getLast? with
  | none => .un
  | some x => .sh (f x)
theorem lastS_n {α : Type} (f : α → D) : lastS f [] = .un := nr rfl
theorem lastS_s {α : Type} (f : α → D) (l : List α) (x : α) : lastS f (l ++ [x]) = .sh (f x) := by
  unfold lastS
  rw [List.getLast?_concat]
theorem mask_lastS {α : Type} (f : α → D) (l : List α) (nm : List Nat) (k : Nat) (e : En) : maskGo nm k (lastS f l :: e) = lastS f l :: maskGo nm (k + 1) e := by
  unfold lastS
  rcases l.getLast? with _ | _ <;> rfl
theorem frz_lastS {α : Type} (f : α → D) (l : List α) (nm : List Nat) (k : Nat) (e : En) : frzGo nm k (lastS f l :: e) = lastS f l :: frzGo nm (k + 1) e := by
  unfold lastS
  rcases l.getLast? with _ | _ <;> rfl
/-- a loop over a list: the frame is a function of the items done -/
theorem for_st {tg : Tg} {body : Sm} {α : Type} {f : α → D} (st : List α → En) : ∀ (l done : List α), (∀ (d : List α) (x : α) (r : List α), done ++ l = d ++ x :: r → ∃ e1, tg.set (f x) (st d) = some e1 ∧ body e1 = some (.nx (st (d ++ [x])))) → forGo tg body (st done) (l.map f) = some (.nx (st (done ++ l)))
  | [], done, _ => by rw [List.append_nil]; rfl
  | x :: l, done, H => by
    obtain ⟨e1, h1, h2⟩ := H done x l rfl
    have h4 := for_st (f := f) st l (done ++ [x]) fun d y r he => H d y r (by rw [← he, List.append_assoc]; rfl)
    rw [List.map_cons, for_c, h1, fset_s, h2, fstep_nx, h4, List.append_assoc]
    rfl
/-- a loop's name behind n turns over a range -/
def lv (lo : Int) : Nat → Slot
  | 0 => .un
  | n + 1 => .sh (.int (lo + (n : Int)))
theorem lv_z (lo : Int) : lv lo 0 = .un := nr rfl
theorem lv_s0 (lo : Int) (n : Nat) : lv lo (n + 1) = .sh (.int (lo + (n : Int))) := nr rfl
theorem mask_lv (nm : List Nat) (k : Nat) (lo : Int) (n : Nat) (e : En) : maskGo nm k (lv lo n :: e) = lv lo n :: maskGo nm (k + 1) e := by cases n <;> rfl
theorem frz_lv (nm : List Nat) (k : Nat) (lo : Int) (n : Nat) (e : En) : frzGo nm k (lv lo n :: e) = lv lo n :: frzGo nm (k + 1) e := by cases n <;> rfl
/-- a loop over a list: the frame behind the items I k is e -/
theorem for_inv {tg : Tg} {body : Sm} {α : Type} {f : α → D} (I : List α → En → Prop) : ∀ (l done : List α) (e : En), I done e → (∀ (d : List α) (x : α) (r : List α) (e : En), done ++ l = d ++ x :: r → I d e → ∃ e1 e2, tg.set (f x) e = some e1 ∧ body e1 = some (.nx e2) ∧ I (d ++ [x]) e2) → ∃ e', forGo tg body e (l.map f) = some (.nx e') ∧ I (done ++ l) e'
  | [], done, e, h, _ => ⟨e, rfl, by rw [List.append_nil]; exact h⟩
  | x :: l, done, e, h, H => by
    obtain ⟨e1, e2, h1, h2, h3⟩ := H done x l e rfl h
    obtain ⟨e', h4, h5⟩ := for_inv I l (done ++ [x]) e2 h3 fun d y r e he hI => H d y r e (by rw [← he, List.append_assoc]; rfl) hI
    refine ⟨e', ?_, ?_⟩
    · rw [List.map_cons, for_c, h1, fset_s, h2, fstep_nx]
      exact h4
    · rw [List.append_assoc] at h5
      exact h5
def forR (r : Option Ri) (nm : List Nat) (tg : Tg) (body : Sm) (env : En) : Option Out := match r with
  | none => none
  | some (.x e) => if e.flatX then some (.x e env) else none
  | some (.ok ds true) => forGo tg body (freeze nm env) ds
  | some (.ok ds false) => forGo tg body env ds
theorem for_e (nm : List Nat) (g : Iv) (tg : Tg) (body : Sm) (env : En) : cFor nm g tg body env = forR (g (mask nm env)) nm tg body env := by
  unfold cFor forR
  rcases g (mask nm env) with _ | ⟨_, _ | _⟩ | _ <;> rfl
theorem forR_t (ds : List D) (nm : List Nat) (tg : Tg) (body : Sm) (env : En) : forR (some (.ok ds true)) nm tg body env = forGo tg body (freeze nm env) ds := nr rfl
theorem forR_f (ds : List D) (nm : List Nat) (tg : Tg) (body : Sm) (env : En) : forR (some (.ok ds false)) nm tg body env = forGo tg body env ds := nr rfl
theorem bindI_v (d : D) (k : D → Option Ri) : bindI (some (.v d)) k = k d := by cases d <;> rfl
theorem bindI_n (d : D) (k : D → Option Ri) : bindI (some (.n d)) k = k d := by cases d <;> rfl
theorem iSeq_e (f : Ev) (e : En) : iSeq f e = bindI (f e) seqD := nr rfl
theorem seqD_t (l : List D) : seqD (.tup l) = some (.ok l true) := nr rfl
theorem seqD_l (l : List D) : seqD (.lst l) = some (.ok l true) := nr rfl
theorem seqD_s (l : List D) : seqD (.scr l) = some (.ok l true) := nr rfl
theorem bindLI_ok (ds : List D) (k : List D → Option Ri) : bindLI (some (.ok ds)) k = k ds := by cases ds <;> rfl
def rg1 : List D → Option Ri
  | [.int j] => if rgOk j then some (.ok (rgD 0 j.toNat) false) else none
  | _ => none
def rg2 : List D → Option Ri
  | [.int i, .int j] => if rgOk i && rgOk j then some (.ok (rgD i (j - i).toNat) false) else none
  | _ => none
theorem iRange1_e (f : Ev) (e : En) : iRange1 f e = bindLI (evs [f] e) rg1 := by
  unfold iRange1
  congr 1
theorem iRange2_e (f g : Ev) (e : En) : iRange2 f g e = bindLI (evs [f, g] e) rg2 := by
  unfold iRange2
  congr 1
theorem rgOk_of {i : Int} {n : Nat} [a : SzC i n] (h1 : n ≤ 61) : rgOk i = true := by
  have h2 : i.natAbs < 2 ^ 61 := Nat.lt_of_lt_of_le a.lt (Nat.pow_le_pow_right (by decide) h1)
  unfold rgOk
  exact decide_eq_true ⟨by omega, by omega⟩
theorem rg1_i {j : Int} {n : Nat} [a : SzC j n] (h : n ≤ 61) : rg1 [.int j] = some (.ok (rgD 0 j.toNat) false) := by
  show (if rgOk j then _ else _) = _
  rw [rgOk_of h]
  rfl
theorem rg2_i {i j : Int} {m n : Nat} [SzC i m] [SzC j n] (h : m ≤ 61) (h2 : n ≤ 61) : rg2 [.int i, .int j] = some (.ok (rgD i (j - i).toNat) false) := by
  show (if rgOk i && rgOk j then _ else _) = _
  rw [rgOk_of h, rgOk_of h2]
  rfl
theorem rgD_z (lo : Int) : rgD lo 0 = [] := nr rfl
theorem rgD_s (lo : Int) (n : Nat) : rgD lo (n + 1) = .int lo :: rgD (lo + 1) n := by
  unfold rgD
  rw [List.range_succ_eq_map, List.map_cons, List.map_map]
  congr 1
  · simp
  · apply List.map_congr_left
    intro a _
    simp only [Function.comp]
    congr 1
    push_cast
    omega
def en1 : List D → Option Ri
  | [.lst l] => some (.ok (enD 0 l) true)
  | [.scr l] => some (.ok (enD 0 l) true)
  | _ => none
theorem iEn_e (fs : List Ev) (e : En) : iEn fs e = bindLI (evs fs e) en1 := by
  unfold iEn
  congr 1
theorem en1_l (l : List D) : en1 [.lst l] = some (.ok (enD 0 l) true) := nr rfl
theorem en1_s (l : List D) : en1 [.scr l] = some (.ok (enD 0 l) true) := nr rfl
theorem enD_n (k : Nat) : enD k [] = [] := nr rfl
theorem enD_c (k : Nat) (x : D) (l : List D) : enD k (x :: l) = .tup [.int k, x] :: enD (k + 1) l := nr rfl
def en2 : List D → Option Ri
  | [.lst l] => some (.ok (enD 0 l) true)
  | [.scr l] => some (.ok (enD 0 l) true)
  | [.tup l] => some (.ok (enD 0 l) true)
  | _ => none
theorem iEnA_e (fs : List Ev) (e : En) : iEnA fs e = bindLI (evs fs e) en2 := by
  unfold iEnA
  congr 1
theorem en2_l (l : List D) : en2 [.lst l] = some (.ok (enD 0 l) true) := nr rfl
theorem en2_s (l : List D) : en2 [.scr l] = some (.ok (enD 0 l) true) := nr rfl
theorem en2_t (l : List D) : en2 [.tup l] = some (.ok (enD 0 l) true) := nr rfl
def zp2 : List D → Option Ri
  | [.lst l, .lst m] => some (.ok (prD l m) true)
  | [.tup l, .tup m] => some (.ok (prD l m) true)
  | _ => none
theorem iZp_e (fs : List Ev) (e : En) : iZp fs e = bindLI (evs fs e) zp2 := by
  unfold iZp
  congr 1
theorem zp2_l (l m : List D) : zp2 [.lst l, .lst m] = some (.ok (prD l m) true) := nr rfl
theorem zp2_t (l m : List D) : zp2 [.tup l, .tup m] = some (.ok (prD l m) true) := nr rfl
theorem prD_c (x y : D) (l m : List D) : prD (x :: l) (y :: m) = .tup [x, y] :: prD l m := nr rfl
theorem prD_n (m : List D) : prD [] m = [] := by cases m <;> rfl
theorem prD_n' (m : List D) : prD m [] = [] := by cases m <;> rfl
def rv1 : D → Option Ri
  | .tup l => some (.ok l.reverse true)
  | .lst l => some (.ok l.reverse true)
  | _ => none
theorem iRv_e (f : Ev) (e : En) : iRv f e = bindI (f e) rv1 := by
  unfold iRv
  congr 1
theorem rv1_t (l : List D) : rv1 (.tup l) = some (.ok l.reverse true) := nr rfl
theorem rv1_l (l : List D) : rv1 (.lst l) = some (.ok l.reverse true) := nr rfl

/-! ### list displays of loops -/
def lcR (r : Option Ri) (vs : List Nat) (tg : Tg) (c : Tv) (elt : Ev) (env : En) : Option Rs := match r with
  | some (.ok ds _) => if ds.length ≤ 16777216 then (lcGo tg c elt (wipeE env vs) ds).map fun l => .n (.lst l) else none
  | some (.x e) => some (.x e)
  | none => none
theorem lc_e (g : Iv) (vs : List Nat) (tg : Tg) (c : Tv) (elt : Ev) (env : En) : cLc g vs tg c elt env = lcR (g env) vs tg c elt env := nr rfl
theorem lcR_ok (ds : List D) (z : Bool) (vs : List Nat) (tg : Tg) (c : Tv) (elt : Ev) (env : En) : lcR (some (.ok ds z)) vs tg c elt env = if ds.length ≤ 16777216 then (lcGo tg c elt (wipeE env vs) ds).map fun l => .n (.lst l) else none := nr rfl
theorem wipe_n (env : En) : wipeE env [] = env := nr rfl
theorem wipe_c (env : En) (v : Nat) (vs : List Nat) : wipeE env (v :: vs) = (wipeE env vs).set v .un := nr rfl
def lcons (r : Option Rs) (l : Option (List D)) : Option (List D) := match r with
  | some (.v y) => l.map (y :: ·)
  | some (.n y) => l.map (y :: ·)
  | _ => none
def ltest (r : Option Rt) (a b : Option (List D)) : Option (List D) := match r with
  | some (.ok true) => a
  | some (.ok false) => b
  | _ => none
def lset (o : Option En) (tg : Tg) (c : Tv) (elt : Ev) (env : En) (r : List D) : Option (List D) := match o with
  | none => none
  | some e1 => ltest (c e1) (lcons (elt e1) (lcGo tg c elt env r)) (lcGo tg c elt env r)
theorem lc_n (tg : Tg) (c : Tv) (elt : Ev) (env : En) : lcGo tg c elt env [] = some [] := nr rfl
theorem lc_c (tg : Tg) (c : Tv) (elt : Ev) (env : En) (d : D) (r : List D) : lcGo tg c elt env (d :: r) = lset (tg.set d env) tg c elt env r := by
  rw [lcGo.eq_def]
  unfold lset ltest lcons
  dsimp only
  try (
    rcases tg.set d env with _ | e1
    · rfl
    · dsimp only
      rcases c e1 with _ | (_ | _) | _
      · rfl
      · rfl
      · rcases elt e1 with _ | _ | _ | _ <;> rfl
      · rfl)
theorem lset_some (e : En) (tg : Tg) (c : Tv) (elt : Ev) (env : En) (r : List D) : lset (some e) tg c elt env r = ltest (c e) (lcons (elt e) (lcGo tg c elt env r)) (lcGo tg c elt env r) := nr rfl
theorem ltest_t (a b : Option (List D)) : ltest (some (.ok true)) a b = a := nr rfl
theorem ltest_ok (b : Bool) (x y : Option (List D)) : ltest (some (.ok b)) x y = if b then x else y := by cases b <;> rfl
theorem lcons_v (y : D) (l : Option (List D)) : lcons (some (.v y)) l = l.map (y :: ·) := nr rfl
theorem lcons_n (y : D) (l : Option (List D)) : lcons (some (.n y)) l = l.map (y :: ·) := nr rfl
/-- over data of one shape -/
theorem lc_map {α : Type} {tg : Tg} {elt : Ev} {env : En} {h k : α → D} : ∀ (l : List α), (∀ x ∈ l, ∃ e, tg.set (h x) env = some e ∧ (elt e = some (.v (k x)) ∨ elt e = some (.n (k x)))) → lcGo tg tYes' elt env (l.map h) = some (l.map k)
  | [], _ => rfl
  | x :: l, H => by
    obtain ⟨e, h1, h2⟩ := H x (List.mem_cons_self ..)
    rw [List.map_cons, lc_c, h1, lset_some, tYes_e, ltest_t, lc_map l fun y hy => H y (List.mem_cons_of_mem _ hy)]
    rcases h2 with h2 | h2 <;> rw [h2] <;> rfl

/-! ### lists of one's own -/
def onR (s : Option Slot) (i : Nat) (env : En) (k : List D → Option (List D)) : Option Out := match s with
  | some (.own (.lst l)) => (k l).map fun l' => .nx (env.set i (.own (.lst l')))
  | _ => none
theorem on_e (i : Nat) (env : En) (k : List D → Option (List D)) : onLst i env k = onR (env[i]?) i env k := by
  unfold onLst onR
  rcases env[i]? with _ | _ | _ | z <;> first | rfl | (cases z <;> rfl)
theorem onR_l (l : List D) (i : Nat) (env : En) (k : List D → Option (List D)) : onR (some (.own (.lst l))) i env k = (k l).map fun l' => .nx (env.set i (.own (.lst l'))) := nr rfl
def isLR (s : Option Slot) : Bool := match s with
  | some (.own (.lst _)) => true
  | _ => false
theorem isL_e (i : Nat) (env : En) : isL i env = isLR (env[i]?) := by
  unfold isL isLR
  rcases env[i]? with _ | _ | _ | z <;> first | rfl | (cases z <;> rfl)
theorem isLR_l (l : List D) : isLR (some (.own (.lst l))) = true := nr rfl
theorem app_e (i : Nat) (nm : List Nat) (f : Ev) (env : En) : cApp i nm f env = if isL i env then evxR (f (mask nm env)) nm env (fun u env1 => onLst i env1 fun l => if l.length < 16777216 then some (l ++ [u.d]) else none) else none := by
  unfold cApp
  rw [evx_e]
  rfl
def extR (i : Nat) (u : D) (env1 : En) : Option Out := match u with
  | .lst m => onLst i env1 fun l => if l.length + m.length ≤ 16777216 then some (l ++ m) else none
  | _ => none
theorem ext_e (i : Nat) (nm : List Nat) (f : Ev) (env : En) : cExtend i nm f env = if isL i env then evxR (f (mask nm env)) nm env (fun u env1 => extR i u.d env1) else none := by
  unfold cExtend
  rw [evx_e]
  rfl
theorem extR_l (i : Nat) (m : List D) (env1 : En) : extR i (.lst m) env1 = onLst i env1 fun l => if l.length + m.length ≤ 16777216 then some (l ++ m) else none := nr rfl
def setIR (i : Nat) (u : Vn) (w : D) (env2 : En) : Option Out := match w with
  | .int k => onLst i env2 fun l => (ixN l.length k).map fun j => l.set j u.d
  | _ => none
theorem setIx_e (i : Nat) (nm : List Nat) (f ix : Ev) (env : En) : cSetIx i nm f ix env = evxR (f (mask nm env)) nm env fun u env1 => if isL i env1 then evxR (ix (mask nm env1)) nm env1 (fun w env2 => setIR i u w.d env2) else none := by
  unfold cSetIx
  rw [evx_e]
  congr 1
theorem setIR_i (i : Nat) (u : Vn) (k : Int) (env2 : En) : setIR i u (.int k) env2 = onLst i env2 fun l => (ixN l.length k).map fun j => l.set j u.d := nr rfl

/-! ### branches join -/
section
variable {c : Prop} [Decidable c]
theorem j_snx (a b : En) : (if c then some (Out.nx a) else some (Out.nx b)) = some (Out.nx (if c then a else b)) := by split <;> rfl
theorem j_srt (a b : Vn) : (if c then some (Out.rt a) else some (Out.rt b)) = some (Out.rt (if c then a else b)) := by split <;> rfl
theorem j_sv (a b : D) : (if c then some (Rs.v a) else some (Rs.v b)) = some (Rs.v (if c then a else b)) := by split <;> rfl
theorem j_sn (a b : D) : (if c then some (Rs.n a) else some (Rs.n b)) = some (Rs.n (if c then a else b)) := by split <;> rfl
theorem j_sok (a b : Bool) : (if c then some (Rt.ok a) else some (Rt.ok b)) = some (Rt.ok (if c then a else b)) := by split <;> rfl
theorem j_slst (a b : List D) : (if c then some a else some b) = some (if c then a else b) := by split <;> rfl
theorem j_srok (a b : List D) (z : Bool) : (if c then some (Ri.ok a z) else some (Ri.ok b z)) = some (Ri.ok (if c then a else b) z) := by split <;> rfl
theorem j_sbool (a b : Bool) : (if c then some a else some b) = some (if c then a else b) := by split <;> rfl
theorem j_rv (a b : D) : (if c then Rs.v a else Rs.v b) = Rs.v (if c then a else b) := by split <;> rfl
theorem j_rn (a b : D) : (if c then Rs.n a else Rs.n b) = Rs.n (if c then a else b) := by split <;> rfl
theorem j_vv (a b : D) : (if c then Vn.v a else Vn.v b) = Vn.v (if c then a else b) := by split <;> rfl
theorem j_vn (a b : D) : (if c then Vn.n a else Vn.n b) = Vn.n (if c then a else b) := by split <;> rfl
theorem j_ok (a b : Bool) : (if c then Rt.ok a else Rt.ok b) = Rt.ok (if c then a else b) := by split <;> rfl
theorem j_nx (a b : En) : (if c then Out.nx a else Out.nx b) = Out.nx (if c then a else b) := by split <;> rfl
theorem j_rt (a b : Vn) : (if c then Out.rt a else Out.rt b) = Out.rt (if c then a else b) := by split <;> rfl
theorem j_sh (a b : D) : (if c then Slot.sh a else Slot.sh b) = Slot.sh (if c then a else b) := by split <;> rfl
theorem j_own (a b : D) : (if c then Slot.own a else Slot.own b) = Slot.own (if c then a else b) := by split <;> rfl
theorem j_int (a b : Int) : (if c then D.int a else D.int b) = D.int (if c then a else b) := by split <;> rfl
theorem j_bl (a b : Bool) : (if c then D.bl a else D.bl b) = D.bl (if c then a else b) := by split <;> rfl
theorem j_str (a b : Str) : (if c then D.str a else D.str b) = D.str (if c then a else b) := by split <;> rfl
theorem j_tup (a b : List D) : (if c then D.tup a else D.tup b) = D.tup (if c then a else b) := by split <;> rfl
theorem j_lst (a b : List D) : (if c then D.lst a else D.lst b) = D.lst (if c then a else b) := by split <;> rfl
theorem j_cons {α : Type} (a b : α) (l m : List α) : (if c then a :: l else b :: m) = (if c then a else b) :: (if c then l else m) := by split <;> rfl
theorem j_rok (a b : List D) (z : Bool) : (if c then Ri.ok a z else Ri.ok b z) = Ri.ok (if c then a else b) z := by split <;> rfl
end
theorem flat_int (i : Int) : D.flat (.int i) = true := by simp only [D.flat]
theorem flat_bl (b : Bool) : D.flat (.bl b) = true := by simp only [D.flat]
theorem flat_non : D.flat .non = true := by simp only [D.flat]
theorem flat_str (x : Str) : D.flat (.str x) = true := by simp only [D.flat]
theorem flat_tup (l : List D) : D.flat (.tup l) = D.flats l := by simp only [D.flat]
theorem flat_lst (l : List D) : D.flat (.lst l) = false := by simp only [D.flat]
theorem flat_scr (l : List D) : D.flat (.scr l) = false := by simp only [D.flat]
theorem flats_n : D.flats [] = true := by simp only [D.flats]
theorem flats_c (d : D) (l : List D) : D.flats (d :: l) = (d.flat && D.flats l) := by simp only [D.flats]
theorem flatN_l (l : List D) : D.flatN (.lst l) = D.flats l := nr rfl

/-! ### scripts, cells -/
structure Scr where
  ns : List Int
  len : ns.length ≤ 63
  bits : ∀ z ∈ ns, Builtin.Int.intBits z ≤ 1048576
abbrev Scr.d (s : Scr) : D := .scr (s.ns.map .int)
theorem bits_sz {z : Int} {n : Nat} (h : Builtin.Int.intBits z ≤ n) : SzC z n := ⟨by
  unfold Builtin.Int.intBits at h
  split at h
  · rename_i h0'
    have h0'' : z = 0 := eq_of_beq h0'
    have h0 : z.natAbs = 0 := by omega
    rw [h0]
    exact Nat.two_pow_pos n
  · rename_i h0'
    have h0 : z ≠ 0 := fun e => h0' (by rw [e]; rfl)
    exact (Nat.log2_lt (by omega)).1 (by omega)⟩
def Scr.raw (s : Scr) (k : Int) : Int := if 0 < s.ns.length then (s.ns[(k % s.ns.length).toNat]?).getD 0 else 0
instance Scr.raw_sz (s : Scr) (k : Int) : SzC (s.raw k) 1048576 := by
  unfold Scr.raw
  split
  · rcases h : s.ns[(k % s.ns.length).toNat]? with _ | z
    · exact SzC.mono (m := 1) ⟨by decide⟩ (by decide +kernel)
    · exact bits_sz (s.bits z (List.mem_of_getElem? h))
  · exact SzC.mono (m := 1) ⟨by decide⟩ (by decide +kernel)
def cell (s : Scr) (k : Int) : Int := s.raw k / 2147483647 * 2147483647 + ((s.raw k % 2147483647 + 7919 * k + 1) * 48271 % 2147483647 * 69621 + k) % 2147483647
instance cell_sz (s : Scr) (k : Int) : SzC (cell s k) 1048608 := by
  exact SzC.mono (x := s.raw k / 2147483647 * 2147483647 + ((s.raw k % 2147483647 + 7919 * k + 1) * 48271 % 2147483647 * 69621 + k) % 2147483647) inferInstance (by decide +kernel)
theorem keeps_of {φ : List D → Option Rs} (h : ∀ s : Scr, φ [s.d] = some (.v (.bl true))) : Keeps φ := fun ns h1 h2 => h ⟨ns, h1, h2⟩

/-! ### sides -/
def sideD (r : Bool) : D := if r then .str "right" else .str "left"
theorem mkL : D.str "left" = sideD false := nr rfl
theorem mkR : D.str "right" = sideD true := nr rfl
theorem j_side {c : Prop} [Decidable c] (a b : Bool) : (if c then sideD a else sideD b) = sideD (if c then a else b) := by split <;> rfl
theorem eq_side (a b : Bool) : eqD (sideD a) (sideD b) = some (.v (.bl (a == b))) := by cases a <;> cases b <;> kernel_rfl
theorem ne_side (a b : Bool) : neD (sideD a) (sideD b) = some (.v (.bl (!(a == b)))) := by cases a <;> cases b <;> kernel_rfl
theorem ni_side (a : Bool) : notInD (sideD a) (.tup [sideD false, sideD true]) = some (.v (.bl false)) := by cases a <;> kernel_rfl
theorem in_side (a : Bool) : inD (sideD a) (.tup [sideD false, sideD true]) = some (.v (.bl true)) := by cases a <;> kernel_rfl
theorem flat_side (a : Bool) : D.flat (sideD a) = true := by cases a <;> kernel_rfl
theorem beq_tt (a : Bool) : (a == true) = a := by cases a <;> rfl

/-! ### four numbers -/
/-- four parts -/
structure Q where
  a : Int
  b : Int
  c : Int
  d : Int
deriving DecidableEq
def Q.dt (q : Q) : D := .tup [.int q.a, .int q.b, .int q.c, .int q.d]
theorem mk_dt (a b c d : Int) : D.tup [.int a, .int b, .int c, .int d] = Q.dt ⟨a, b, c, d⟩ := nr rfl
theorem flat_dt (q : Q) : D.flat q.dt = true := by simp only [Q.dt, D.flat, D.flats, Bool.and_self]
theorem sh_dt (n : Nat) (q : Q) : D.sh (n + 1) q.dt = true := by simp only [Q.dt, sh_tup, shs_cons, shs_nil, sh_int, Bool.and_self]
theorem Q.ext' {p q : Q} (h1 : p.a = q.a) (h2 : p.b = q.b) (h3 : p.c = q.c) (h4 : p.d = q.d) : p = q := by
  cases p
  cases q
  simp only at h1 h2 h3 h4
  rw [h1, h2, h3, h4]
theorem eqv_dt (p q : Q) : D.eqv p.dt q.dt = decide (p = q) := by
  simp only [Q.dt, eqv_tup, eqvs_cons, eqvs_nil, eqv_int, Bool.and_true]
  by_cases h : p = q
  · subst h
    simp only [decide_true, Bool.and_self]
  · rw [decide_eq_false h]
    by_cases h1 : p.a = q.a
    · by_cases h2 : p.b = q.b
      · by_cases h3 : p.c = q.c
        · by_cases h4 : p.d = q.d
          · exact absurd (Q.ext' h1 h2 h3 h4) h
          · simp only [h4, decide_false, Bool.and_false]
        · simp only [h3, decide_false, Bool.and_false, Bool.false_and]
      · simp only [h2, decide_false, Bool.and_false, Bool.false_and]
    · simp only [h1, decide_false, Bool.and_false, Bool.false_and]
theorem eqD_dt (p q : Q) : eqD p.dt q.dt = some (.v (.bl (decide (p = q)))) := by
  unfold eqD
  rw [sh_dt, sh_dt, eqv_dt]
  rfl
theorem neD_dt (p q : Q) : neD p.dt q.dt = some (.v (.bl (!decide (p = q)))) := by
  unfold neD
  rw [sh_dt, sh_dt, eqv_dt]
  rfl
theorem eqvs_dt : ∀ l m : List Q, D.eqvs (l.map Q.dt) (m.map Q.dt) = decide (l = m)
  | [], [] => by rw [List.map_nil, eqvs_nil, decide_eq_true rfl]
  | [], y :: m => by rw [List.map_nil, List.map_cons, eqvs_nc, decide_eq_false (by simp)]
  | x :: l, [] => by rw [List.map_nil, List.map_cons, eqvs_cn, decide_eq_false (by simp)]
  | x :: l, y :: m => by
    rw [List.map_cons, List.map_cons, eqvs_cons, eqv_dt, eqvs_dt l m, Bool.eq_iff_iff, Bool.and_eq_true, decide_eq_true_eq, decide_eq_true_eq, decide_eq_true_eq, List.cons.injEq]
theorem shs_dt (n : Nat) (l : List Q) : D.shs (n + 1) (l.map Q.dt) = true := shs_map _ _ l fun q _ => sh_dt n q
theorem flats_dt : ∀ l : List Q, D.flats (l.map Q.dt) = true
  | [] => flats_n
  | x :: l => by rw [List.map_cons, flats_c, flat_dt, flats_dt l]; rfl
theorem flats_ints : ∀ l : List Int, D.flats (l.map .int) = true
  | [] => flats_n
  | x :: l => by rw [List.map_cons, flats_c, flat_int, flats_ints l]; rfl
theorem shs_ints (n : Nat) (l : List Int) : D.shs n (l.map .int) = true := shs_map _ _ l fun q _ => sh_int n q
theorem eqvs_ints : ∀ l m : List Int, D.eqvs (l.map .int) (m.map .int) = decide (l = m)
  | [], [] => by rw [List.map_nil, eqvs_nil, decide_eq_true rfl]
  | [], y :: m => by rw [List.map_nil, List.map_cons, eqvs_nc, decide_eq_false (by simp)]
  | x :: l, [] => by rw [List.map_nil, List.map_cons, eqvs_cn, decide_eq_false (by simp)]
  | x :: l, y :: m => by
    rw [List.map_cons, List.map_cons, eqvs_cons, eqv_int, eqvs_ints l m, Bool.eq_iff_iff, Bool.and_eq_true, decide_eq_true_eq, decide_eq_true_eq, decide_eq_true_eq, List.cons.injEq]
theorem tru_dt (q : Q) : truD q.dt = some true := nr rfl
theorem j_dt {c : Prop} [Decidable c] (p q : Q) : (if c then p.dt else q.dt) = Q.dt (if c then p else q) := by split <;> rfl
theorem dtE {p q : Q} (h1 : p.a = q.a) (h2 : p.b = q.b) (h3 : p.c = q.c) (h4 : p.d = q.d) : some (Rs.v p.dt) = some (Rs.v q.dt) := by rw [Q.ext' h1 h2 h3 h4]
theorem isNot_dt (q : Q) : isNotD q.dt .non = some (.v (.bl true)) := nr rfl
theorem isNot_nn : isNotD .non .non = some (.v (.bl false)) := nr rfl
theorem is_dt (q : Q) : isD q.dt .non = some (.v (.bl false)) := nr rfl
theorem is_nn : isD .non .non = some (.v (.bl true)) := nr rfl
theorem isNot_i (i : Int) : isNotD (.int i) .non = some (.v (.bl true)) := nr rfl
theorem is_i (i : Int) : isD (.int i) .non = some (.v (.bl false)) := nr rfl
theorem isNot_t (l : List D) : isNotD (.tup l) .non = some (.v (.bl true)) := nr rfl
theorem is_t (l : List D) : isD (.tup l) .non = some (.v (.bl false)) := nr rfl
theorem isNot_l (l : List D) : isNotD (.lst l) .non = some (.v (.bl true)) := nr rfl
theorem is_l (l : List D) : isD (.lst l) .non = some (.v (.bl false)) := nr rfl
theorem tupE {a b c d a' b' c' d' : Int} (h1 : a = a') (h2 : b = b') (h3 : c = c') (h4 : d = d') : some (Rs.v (D.tup [.int a, .int b, .int c, .int d])) = some (Rs.v (D.tup [.int a', .int b', .int c', .int d'])) := by rw [h1, h2, h3, h4]
theorem seqD_dt (q : Q) : seqD q.dt = some (.ok [.int q.a, .int q.b, .int q.c, .int q.d] true) := nr rfl
theorem len_dt (q : Q) : lenC [q.dt] = some (.v (.int 4)) := nr rfl
theorem isTup_dt (q : Q) : isTupD q.dt = some true := nr rfl
theorem ix_dt (q : Q) (i : Int) : ixD q.dt (.int i) = (atI [D.int q.a, .int q.b, .int q.c, .int q.d] i).map .v := nr rfl
theorem en2_dt (q : Q) : en2 [q.dt] = some (.ok [.tup [.int 0, .int q.a], .tup [.int 1, .int q.b], .tup [.int 2, .int q.c], .tup [.int 3, .int q.d]] true) := nr rfl
theorem zp2_dt (p q : Q) : zp2 [p.dt, q.dt] = some (.ok [.tup [.int p.a, .int q.a], .tup [.int p.b, .int q.b], .tup [.int p.c, .int q.c], .tup [.int p.d, .int q.d]] true) := nr rfl
theorem tuple_dt (q : Q) : tupleC [q.dt] = some (.v q.dt) := nr rfl
theorem list_dt (q : Q) : listC [q.dt] = some (.n (.lst [.int q.a, .int q.b, .int q.c, .int q.d])) := nr rfl
theorem tgDt (is : List Nat) (q : Q) (env : En) : (Tg.tu is).set q.dt env = setAll is [.int q.a, .int q.b, .int q.c, .int q.d] env := nr rfl
class QC (q : Q) (n : outParam Nat) : Prop where
  a : SzC q.a n
  b : SzC q.b n
  c : SzC q.c n
  d : SzC q.d n
theorem QC.mono {q : Q} {m : Nat} (h : QC q m) {n : Nat} (l : m ≤ n) : QC q n := ⟨h.a.mono l, h.b.mono l, h.c.mono l, h.d.mono l⟩
instance qc_a {q : Q} {n : Nat} [h : QC q n] : SzC q.a n := h.a
instance qc_b {q : Q} {n : Nat} [h : QC q n] : SzC q.b n := h.b
instance qc_c {q : Q} {n : Nat} [h : QC q n] : SzC q.c n := h.c
instance qc_d {q : Q} {n : Nat} [h : QC q n] : SzC q.d n := h.d
instance qc_mk {a b c d : Int} {k l m n : Nat} [h1 : SzC a k] [h2 : SzC b l] [h3 : SzC c m] [h4 : SzC d n] : QC ⟨a, b, c, d⟩ (max (max k l) (max m n)) :=
  ⟨h1.mono (by omega), h2.mono (by omega), h3.mono (by omega), h4.mono (by omega)⟩
instance qc_ite {c : Prop} [Decidable c] {p q : Q} {m n : Nat} [h1 : QC p m] [h2 : QC q n] : QC (if c then p else q) (max m n) := by
  split
  · exact h1.mono (by omega)
  · exact h2.mono (by omega)
/-- all multiplied out -/
def Q.mul (p q : Q) : Q := ⟨p.a * q.a - p.b * q.b - p.c * q.c - p.d * q.d, p.a * q.b + p.b * q.a + p.c * q.d - p.d * q.c, p.a * q.c - p.b * q.d + p.c * q.a + p.d * q.b, p.a * q.d + p.b * q.c - p.c * q.b + p.d * q.a⟩
def Q.half (p : Q) : Q := ⟨p.a / 2, p.b / 2, p.c / 2, p.d / 2⟩
def Q.add (p q : Q) : Q := ⟨p.a + q.a, p.b + q.b, p.c + q.c, p.d + q.d⟩
def Q.sub (p q : Q) : Q := ⟨p.a - q.a, p.b - q.b, p.c - q.c, p.d - q.d⟩
def Q.bar (p : Q) : Q := ⟨p.a, -p.b, -p.c, -p.d⟩
def Q.sq (p : Q) : Int := p.a * p.a + p.b * p.b + p.c * p.c + p.d * p.d
instance qc_mul {p q : Q} {m n : Nat} [h1 : QC p m] [h2 : QC q n] : QC (p.mul q) (m + n + 3) := by
  unfold Q.mul
  exact ⟨SzC.mono inferInstance (by omega), SzC.mono inferInstance (by omega), SzC.mono inferInstance (by omega), SzC.mono inferInstance (by omega)⟩
instance qc_half {p : Q} {m : Nat} [h1 : QC p m] : QC p.half m := ⟨inferInstanceAs (SzC (p.a / 2) m), inferInstanceAs (SzC (p.b / 2) m), inferInstanceAs (SzC (p.c / 2) m), inferInstanceAs (SzC (p.d / 2) m)⟩
instance qc_bar {p : Q} {m : Nat} [h1 : QC p m] : QC p.bar m := ⟨inferInstanceAs (SzC p.a m), inferInstanceAs (SzC (-p.b) m), inferInstanceAs (SzC (-p.c) m), inferInstanceAs (SzC (-p.d) m)⟩
instance qc_add {p q : Q} {m n : Nat} [h1 : QC p m] [h2 : QC q n] : QC (p.add q) (max m n + 1) :=
  ⟨inferInstanceAs (SzC (p.a + q.a) _), inferInstanceAs (SzC (p.b + q.b) _), inferInstanceAs (SzC (p.c + q.c) _), inferInstanceAs (SzC (p.d + q.d) _)⟩
instance qc_sub {p q : Q} {m n : Nat} [h1 : QC p m] [h2 : QC q n] : QC (p.sub q) (max m n + 1) :=
  ⟨inferInstanceAs (SzC (p.a - q.a) _), inferInstanceAs (SzC (p.b - q.b) _), inferInstanceAs (SzC (p.c - q.c) _), inferInstanceAs (SzC (p.d - q.d) _)⟩
instance sz_sq {p : Q} {m : Nat} [h1 : QC p m] : SzC p.sq (m + m + 3) := by
  unfold Q.sq
  exact SzC.mono inferInstance (by omega)
theorem Q.mul_sq (p q : Q) : (p.mul q).sq = p.sq * q.sq := by
  simp only [Q.mul, Q.sq]
  grind
theorem Q.mul_assoc (p q r : Q) : (p.mul q).mul r = p.mul (q.mul r) := by
  apply Q.ext' <;> simp only [Q.mul] <;> grind
end HD

set_option Elab.async false
set_option linter.all false
set_option maxRecDepth 100000
/-! Qt: fours (parts all even or all odd), halves of products, sizes -/
namespace HD
open PySem L2
def Q.Four (q : Q) : Prop := q.a % 2 = q.b % 2 ∧ q.a % 2 = q.c % 2 ∧ q.a % 2 = q.d % 2
instance (q : Q) : Decidable q.Four := inferInstanceAs (Decidable (_ ∧ _ ∧ _))
def Q.dbl (q : Q) : Q := ⟨2 * q.a, 2 * q.b, 2 * q.c, 2 * q.d⟩
def Q.hm (p q : Q) : Q := (p.mul q).half
def Q.size (q : Q) : Int := q.sq / 4
theorem Q.Four.ex {q : Q} (h : q.Four) : ∃ e x y z t : Int, q = ⟨2 * x + e, 2 * y + e, 2 * z + e, 2 * t + e⟩ := by
  obtain ⟨h1, h2, h3⟩ := h
  exact ⟨q.a % 2, q.a / 2, q.b / 2, q.c / 2, q.d / 2, by apply Q.ext' <;> simp only <;> omega⟩
theorem Q.four_of (e x y z t : Int) : Q.Four ⟨2 * x + e, 2 * y + e, 2 * z + e, 2 * t + e⟩ := by
  unfold Q.Four
  simp only
  omega
theorem Q.half_dbl (q : Q) : q.dbl.half = q := by
  apply Q.ext' <;> simp only [Q.half, Q.dbl] <;> omega
theorem Q.dbl_inj {p q : Q} (h : p.dbl = q.dbl) : p = q := by rw [← p.half_dbl, h, q.half_dbl]
theorem Q.dbl_mul (p q : Q) : p.dbl.mul q = (p.mul q).dbl := by
  apply Q.ext' <;> simp only [Q.mul, Q.dbl] <;> grind
theorem Q.mul_dbl (p q : Q) : p.mul q.dbl = (p.mul q).dbl := by
  apply Q.ext' <;> simp only [Q.mul, Q.dbl] <;> grind
theorem Q.sq_dbl (p : Q) : p.dbl.sq = 4 * p.sq := by
  simp only [Q.sq, Q.dbl]
  grind
theorem Q.hm_ex {p q : Q} (hp : p.Four) (hq : q.Four) : (p.hm q).Four ∧ p.mul q = (p.hm q).dbl := by
  obtain ⟨e, x1, x2, x3, x4, rfl⟩ := hp.ex
  obtain ⟨f, y1, y2, y3, y4, rfl⟩ := hq.ex
  have key : ∃ g z1 z2 z3 z4 : Int, Q.mul ⟨2 * x1 + e, 2 * x2 + e, 2 * x3 + e, 2 * x4 + e⟩ ⟨2 * y1 + f, 2 * y2 + f, 2 * y3 + f, 2 * y4 + f⟩ = Q.dbl ⟨2 * z1 + g, 2 * z2 + g, 2 * z3 + g, 2 * z4 + g⟩ := by
    refine ⟨e * (y1 + y2 + y3 + y4) + f * (x1 + x2 + x3 + x4) + e * f,
      x1 * y1 - x2 * y2 - x3 * y3 - x4 * y4 - e * (y2 + y3 + y4) - f * (x2 + x3 + x4) - e * f,
      x1 * y2 + x2 * y1 + x3 * y4 - x4 * y3 - e * y3 - f * x4, x1 * y3 - x2 * y4 + x3 * y1 + x4 * y2 - e * y4 - f * x2, x1 * y4 + x2 * y3 - x3 * y2 + x4 * y1 - e * y2 - f * x3, ?_⟩
    apply Q.ext' <;> simp only [Q.mul, Q.dbl] <;> grind
  obtain ⟨g, z1, z2, z3, z4, hk⟩ := key
  unfold Q.hm
  rw [hk, Q.half_dbl]
  exact ⟨Q.four_of _ _ _ _ _, rfl⟩
theorem Q.Four.hm {p q : Q} (hp : p.Four) (hq : q.Four) : (p.hm q).Four := (Q.hm_ex hp hq).1
theorem Q.hm2 {p q : Q} (hp : p.Four) (hq : q.Four) : (p.hm q).dbl = p.mul q := (Q.hm_ex hp hq).2.symm
theorem Q.hm_assoc {p q r : Q} (hp : p.Four) (hq : q.Four) (hr : r.Four) : (p.hm q).hm r = p.hm (q.hm r) := by
  apply Q.dbl_inj
  apply Q.dbl_inj
  rw [Q.hm2 (hp.hm hq) hr, Q.hm2 hp (hq.hm hr), ← Q.dbl_mul, ← Q.mul_dbl, Q.hm2 hp hq, Q.hm2 hq hr, Q.mul_assoc]
theorem Q.size4 {q : Q} (h : q.Four) : q.sq = 4 * q.size := by
  obtain ⟨e, x1, x2, x3, x4, rfl⟩ := h.ex
  have : Q.sq ⟨2 * x1 + e, 2 * x2 + e, 2 * x3 + e, 2 * x4 + e⟩ = 4 * (x1 * x1 + x2 * x2 + x3 * x3 + x4 * x4 + e * (x1 + x2 + x3 + x4) + e * e) := by
    simp only [Q.sq]
    grind
  unfold Q.size
  rw [this]
  omega
theorem Q.size_hm {p q : Q} (hp : p.Four) (hq : q.Four) : (p.hm q).size = p.size * q.size := by
  have h1 := Q.size4 (hp.hm hq)
  have h2 := Q.sq_dbl (p.hm q)
  rw [Q.hm2 hp hq, Q.mul_sq, Q.size4 hp, Q.size4 hq, h1] at h2
  have h3 : 16 * (p.hm q).size = 16 * (p.size * q.size) := by grind
  omega
theorem Q.Four.bar {q : Q} (h : q.Four) : q.bar.Four := by
  unfold Q.Four at *
  simp only [Q.bar]
  omega
theorem Q.bar_bar (q : Q) : q.bar.bar = q := by
  apply Q.ext' <;> simp only [Q.bar] <;> omega
theorem Q.sq_bar (q : Q) : q.bar.sq = q.sq := by
  simp only [Q.bar, Q.sq]
  grind
theorem Q.size_bar (q : Q) : q.bar.size = q.size := by
  unfold Q.size
  rw [Q.sq_bar]
theorem Q.bar_mul (p q : Q) : (p.mul q).bar = q.bar.mul p.bar := by
  apply Q.ext' <;> simp only [Q.mul, Q.bar] <;> grind
theorem Q.bar_dbl (p : Q) : p.dbl.bar = p.bar.dbl := by
  apply Q.ext' <;> simp only [Q.bar, Q.dbl] <;> omega
theorem Q.bar_hm {p q : Q} (hp : p.Four) (hq : q.Four) : (p.hm q).bar = q.bar.hm p.bar := by
  apply Q.dbl_inj
  rw [← Q.bar_dbl, Q.hm2 hp hq, Q.hm2 hq.bar hp.bar, Q.bar_mul]
theorem Q.mul_bar (p : Q) : p.mul p.bar = ⟨p.sq, 0, 0, 0⟩ := by
  apply Q.ext' <;> simp only [Q.mul, Q.bar, Q.sq] <;> grind
theorem Q.bar_mul' (p : Q) : p.bar.mul p = ⟨p.sq, 0, 0, 0⟩ := by
  apply Q.ext' <;> simp only [Q.mul, Q.bar, Q.sq] <;> grind
theorem Q.hm_bar {p : Q} (hp : p.Four) : p.hm p.bar = ⟨2 * p.size, 0, 0, 0⟩ := by
  unfold Q.hm
  rw [Q.mul_bar, Q.size4 hp]
  apply Q.ext' <;> simp only [Q.half] <;> omega
theorem Q.bar_hm' {p : Q} (hp : p.Four) : p.bar.hm p = ⟨2 * p.size, 0, 0, 0⟩ := by
  unfold Q.hm
  rw [Q.bar_mul', Q.size4 hp]
  apply Q.ext' <;> simp only [Q.half] <;> omega
theorem sq_nn (x : Int) : 0 ≤ x * x := by
  rcases Int.le_total 0 x with h | h
  · exact Int.mul_nonneg h h
  · exact Int.mul_nonneg_of_nonpos_of_nonpos h h
theorem sq_0 {x : Int} (h : x * x ≤ 0) : x = 0 := by
  have := sq_nn x
  rcases Int.mul_eq_zero.1 (show x * x = 0 by omega) with h | h <;> exact h
theorem Q.sq_nonneg (q : Q) : 0 ≤ q.sq := by
  have h1 := sq_nn q.a
  have h2 := sq_nn q.b
  have h3 := sq_nn q.c
  have h4 := sq_nn q.d
  unfold Q.sq
  omega
theorem Q.sq_zero {q : Q} (h : q.sq ≤ 0) : q = ⟨0, 0, 0, 0⟩ := by
  have h1 := sq_nn q.a
  have h2 := sq_nn q.b
  have h3 := sq_nn q.c
  have h4 := sq_nn q.d
  unfold Q.sq at h
  exact Q.ext' (sq_0 (by omega)) (sq_0 (by omega)) (sq_0 (by omega)) (sq_0 (by omega))
theorem Q.size_nonneg (q : Q) : 0 ≤ q.size := by
  have := q.sq_nonneg
  unfold Q.size
  omega
theorem Q.size_zero {q : Q} (h : q.Four) : q.size = 0 ↔ q = ⟨0, 0, 0, 0⟩ := by
  constructor
  · intro h0
    apply Q.sq_zero
    rw [Q.size4 h, h0]
    decide
  · rintro rfl
    decide
theorem Q.size_pos {q : Q} (h : q.Four) (h0 : q ≠ ⟨0, 0, 0, 0⟩) : 0 < q.size := by
  have h1 := q.size_nonneg
  have h2 : q.size ≠ 0 := fun e => h0 ((Q.size_zero h).1 e)
  omega
instance qc_hm {p q : Q} {m n : Nat} [h1 : QC p m] [h2 : QC q n] : QC (p.hm q) (m + n + 3) := inferInstanceAs (QC (p.mul q).half _)
instance sz_size {p : Q} {m : Nat} [h1 : QC p m] : SzC p.size (m + m + 3) := inferInstanceAs (SzC (p.sq / 4) _)

/-! ### products of many -/
theorem Q.one_four : Q.Four ⟨2, 0, 0, 0⟩ := by decide
theorem Q.one_hm (q : Q) : Q.hm ⟨2, 0, 0, 0⟩ q = q := by
  have : Q.mul ⟨2, 0, 0, 0⟩ q = q.dbl := by apply Q.ext' <;> simp only [Q.mul, Q.dbl] <;> grind
  unfold Q.hm
  rw [this, Q.half_dbl]
theorem Q.hm_one (q : Q) : q.hm ⟨2, 0, 0, 0⟩ = q := by
  have : q.mul ⟨2, 0, 0, 0⟩ = q.dbl := by apply Q.ext' <;> simp only [Q.mul, Q.dbl] <;> grind
  unfold Q.hm
  rw [this, Q.half_dbl]
def prodQ (l : List Q) : Q := l.foldl Q.hm ⟨2, 0, 0, 0⟩
theorem fold_four : ∀ (l : List Q) (z : Q), z.Four → (∀ q ∈ l, q.Four) → (l.foldl Q.hm z).Four
  | [], _, h, _ => h
  | x :: l, z, h, H => fold_four l (z.hm x) (h.hm (H x (List.mem_cons_self ..))) fun q hq => H q (List.mem_cons_of_mem _ hq)
theorem prodQ_four {l : List Q} (H : ∀ q ∈ l, q.Four) : (prodQ l).Four := fold_four l _ Q.one_four H
theorem fold_hm : ∀ (l : List Q) (z : Q), z.Four → (∀ q ∈ l, q.Four) → l.foldl Q.hm z = z.hm (prodQ l)
  | [], z, _, _ => (Q.hm_one z).symm
  | x :: l, z, h, H => by
    have hx := H x (List.mem_cons_self ..)
    have hl : ∀ q ∈ l, q.Four := fun q hq => H q (List.mem_cons_of_mem _ hq)
    have e : prodQ (x :: l) = x.hm (prodQ l) := by
      show l.foldl Q.hm (Q.hm ⟨2, 0, 0, 0⟩ x) = _
      rw [Q.one_hm, fold_hm l x hx hl]
    rw [List.foldl_cons, fold_hm l (z.hm x) (h.hm hx) hl, e, Q.hm_assoc h hx (prodQ_four hl)]
theorem prodQ_append {l m : List Q} (hl : ∀ q ∈ l, q.Four) (hm : ∀ q ∈ m, q.Four) : prodQ (l ++ m) = (prodQ l).hm (prodQ m) := by
  unfold prodQ
  rw [List.foldl_append]
  exact fold_hm m _ (prodQ_four hl) hm
theorem prodQ_one (q : Q) : prodQ [q] = q := Q.one_hm q
theorem prodQ_snoc (l : List Q) (x : Q) : prodQ (l ++ [x]) = (prodQ l).hm x := by
  unfold prodQ
  rw [List.foldl_append]
  rfl
theorem prodQ_cons {l : List Q} {x : Q} (hx : x.Four) (hl : ∀ q ∈ l, q.Four) : prodQ (x :: l) = x.hm (prodQ l) := by
  show l.foldl Q.hm (Q.hm ⟨2, 0, 0, 0⟩ x) = _
  rw [Q.one_hm, fold_hm l x hx hl]
def sizesQ (l : List Q) : Int := l.foldl (fun z q => z * q.size) 1
theorem sizesQ_snoc (l : List Q) (x : Q) : sizesQ (l ++ [x]) = sizesQ l * x.size := by
  unfold sizesQ
  rw [List.foldl_append]
  rfl
theorem prodQ_size {l : List Q} (H : ∀ q ∈ l, q.Four) : (prodQ l).size = sizesQ l := by
  suffices h : ∀ (l : List Q) (z : Q), z.Four → (∀ q ∈ l, q.Four) → (l.foldl Q.hm z).size = l.foldl (fun z q => z * q.size) z.size from h l ⟨2, 0, 0, 0⟩ Q.one_four H
  intro l
  induction l with
  | nil => intro z _ _; rfl
  | cons x l ih =>
    intro z hz H
    have hx := H x (List.mem_cons_self ..)
    rw [List.foldl_cons, List.foldl_cons, ih (z.hm x) (hz.hm hx) (fun q h => H q (List.mem_cons_of_mem _ h)), Q.size_hm hz hx]
theorem fold_sz (b : Nat) : ∀ (l : List Q) (z : Q) (n : Nat), (∀ q ∈ l, QC q b) → QC z n → QC (l.foldl Q.hm z) (n + l.length * (b + 3))
  | [], z, n, _, h => h.mono (by omega)
  | x :: l, z, n, hq, hz => by
    haveI := hz
    haveI := hq x (List.mem_cons_self ..)
    have := fold_sz b l (z.hm x) (n + b + 3) (fun q h => hq q (List.mem_cons_of_mem _ h)) inferInstance
    refine this.mono ?_
    rw [List.length_cons, Nat.succ_mul]
    omega
theorem prodQ_sz {b : Nat} {l : List Q} (hq : ∀ q ∈ l, QC q b) : QC (prodQ l) (2 + l.length * (b + 3)) := fold_sz b l _ 2 hq ⟨⟨by decide⟩, ⟨by decide⟩, ⟨by decide⟩, ⟨by decide⟩⟩
theorem sizesQ_sz {b : Nat} {l : List Q} (hq : ∀ q ∈ l, QC q b) : SzC (sizesQ l) (1 + l.length * (b + b + 3)) := by
  unfold sizesQ
  suffices h : ∀ (l : List Q) (z : Int) (n : Nat), (∀ q ∈ l, QC q b) → SzC z n → SzC (l.foldl (fun z q => z * q.size) z) (n + l.length * (b + b + 3)) from h l 1 1 hq ⟨by decide⟩
  intro l
  induction l with
  | nil => intro z n _ h; exact h.mono (by omega)
  | cons x l ih =>
    intro z n hq hz
    haveI := hz
    haveI := hq x (List.mem_cons_self ..)
    have := ih (z * x.size) (n + (b + b + 3)) (fun q h => hq q (List.mem_cons_of_mem _ h)) inferInstance
    refine this.mono ?_
    rw [List.length_cons, Nat.succ_mul]
    omega
theorem mem_pre {α : Type} {l d r : List α} {x : α} (he : [] ++ l = d ++ x :: r) : (∀ q ∈ d, q ∈ l) ∧ x ∈ l ∧ d.length + 1 ≤ l.length := by
  rw [List.nil_append] at he
  subst he
  refine ⟨fun q h => List.mem_append_left _ h, by simp, ?_⟩
  rw [List.length_append, List.length_cons]
  omega
end HD

set_option Elab.async false
set_option linter.all false
set_option maxRecDepth 100000
/-! Dv: a product on a side, division with a rest, multiples -/
namespace HD
open PySem L2
/-- beside: p times q on the side r (r: right) -/
def bes (r : Bool) (p q : Q) : Q := if r then p.hm q else q.hm p
instance bes_qc {r : Bool} {p q : Q} {m n : Nat} [h1 : QC p m] [h2 : QC q n] : QC (bes r p q) (m + n + 3) := by
  cases r
  · exact (inferInstance : QC (q.hm p) (n + m + 3)).mono (by omega)
  · exact (inferInstance : QC (p.hm q) (m + n + 3))
theorem bes_four {r : Bool} {p q : Q} (hp : p.Four) (hq : q.Four) : (bes r p q).Four := by
  cases r
  · exact hq.hm hp
  · exact hp.hm hq
theorem bes_assoc {r : Bool} {p q t : Q} (hp : p.Four) (hq : q.Four) (ht : t.Four) : bes r (bes r p q) t = bes r p (bes r q t) := by
  cases r
  · exact (Q.hm_assoc ht hq hp).symm
  · exact Q.hm_assoc hp hq ht
theorem bes_bar {r : Bool} {p q : Q} (hp : p.Four) (hq : q.Four) : (bes r p q).bar = bes r q.bar p.bar := by
  cases r
  · exact Q.bar_hm hq hp
  · exact Q.bar_hm hp hq
theorem bes_size {r : Bool} {p q : Q} (hp : p.Four) (hq : q.Four) : (bes r p q).size = p.size * q.size := by
  cases r
  · exact (Q.size_hm hq hp).trans (Int.mul_comm _ _)
  · exact Q.size_hm hp hq
theorem bes_one (r : Bool) (q : Q) : bes r q ⟨2, 0, 0, 0⟩ = q := by
  cases r
  · exact Q.one_hm q
  · exact Q.hm_one q
theorem one_bes (r : Bool) (q : Q) : bes r ⟨2, 0, 0, 0⟩ q = q := by
  cases r
  · exact Q.hm_one q
  · exact Q.one_hm q
theorem bes_against (r : Bool) (p q : Q) : bes (!r) p q = bes r q p := by cases r <;> rfl
def Q.smul (k : Int) (q : Q) : Q := ⟨k * q.a, k * q.b, k * q.c, k * q.d⟩
theorem Q.Four.add {p q : Q} (hp : p.Four) (hq : q.Four) : (p.add q).Four := by
  unfold Q.Four at *
  simp only [Q.add]
  omega
theorem Q.Four.sub {p q : Q} (hp : p.Four) (hq : q.Four) : (p.sub q).Four := by
  unfold Q.Four at *
  simp only [Q.sub]
  omega
theorem Q.four_0 : Q.Four ⟨0, 0, 0, 0⟩ := by decide
theorem Q.dbl_sub (p q : Q) : (p.sub q).dbl = p.dbl.sub q.dbl := by apply Q.ext' <;> simp only [Q.dbl, Q.sub] <;> omega
theorem Q.dbl_add (p q : Q) : (p.add q).dbl = p.dbl.add q.dbl := by apply Q.ext' <;> simp only [Q.dbl, Q.add] <;> omega
theorem Q.mul_sub (p q t : Q) : (p.sub q).mul t = (p.mul t).sub (q.mul t) := by apply Q.ext' <;> simp only [Q.mul, Q.sub] <;> grind
theorem Q.mul_sub' (p q t : Q) : t.mul (p.sub q) = (t.mul p).sub (t.mul q) := by apply Q.ext' <;> simp only [Q.mul, Q.sub] <;> grind
theorem Q.mul_add (p q t : Q) : (p.add q).mul t = (p.mul t).add (q.mul t) := by apply Q.ext' <;> simp only [Q.mul, Q.add] <;> grind
theorem Q.mul_add' (p q t : Q) : t.mul (p.add q) = (t.mul p).add (t.mul q) := by apply Q.ext' <;> simp only [Q.mul, Q.add] <;> grind
theorem Q.hm_sub {p q t : Q} (hp : p.Four) (hq : q.Four) (ht : t.Four) : (p.sub q).hm t = (p.hm t).sub (q.hm t) := by
  apply Q.dbl_inj
  rw [Q.hm2 (hp.sub hq) ht, Q.dbl_sub, Q.hm2 hp ht, Q.hm2 hq ht, Q.mul_sub]
theorem Q.hm_sub' {p q t : Q} (hp : p.Four) (hq : q.Four) (ht : t.Four) : t.hm (p.sub q) = (t.hm p).sub (t.hm q) := by
  apply Q.dbl_inj
  rw [Q.hm2 ht (hp.sub hq), Q.dbl_sub, Q.hm2 ht hp, Q.hm2 ht hq, Q.mul_sub']
theorem Q.hm_add {p q t : Q} (hp : p.Four) (hq : q.Four) (ht : t.Four) : (p.add q).hm t = (p.hm t).add (q.hm t) := by
  apply Q.dbl_inj
  rw [Q.hm2 (hp.add hq) ht, Q.dbl_add, Q.hm2 hp ht, Q.hm2 hq ht, Q.mul_add]
theorem Q.hm_add' {p q t : Q} (hp : p.Four) (hq : q.Four) (ht : t.Four) : t.hm (p.add q) = (t.hm p).add (t.hm q) := by
  apply Q.dbl_inj
  rw [Q.hm2 ht (hp.add hq), Q.dbl_add, Q.hm2 ht hp, Q.hm2 ht hq, Q.mul_add']
theorem bes_sub {r : Bool} {p q t : Q} (hp : p.Four) (hq : q.Four) (ht : t.Four) : bes r (p.sub q) t = (bes r p t).sub (bes r q t) := by
  cases r
  · exact Q.hm_sub' hp hq ht
  · exact Q.hm_sub hp hq ht
theorem bes_sub' {r : Bool} {p q t : Q} (hp : p.Four) (hq : q.Four) (ht : t.Four) : bes r t (p.sub q) = (bes r t p).sub (bes r t q) := by
  cases r
  · exact Q.hm_sub hp hq ht
  · exact Q.hm_sub' hp hq ht
theorem bes_add {r : Bool} {p q t : Q} (hp : p.Four) (hq : q.Four) (ht : t.Four) : bes r (p.add q) t = (bes r p t).add (bes r q t) := by
  cases r
  · exact Q.hm_add' hp hq ht
  · exact Q.hm_add hp hq ht
theorem bes_add' {r : Bool} {p q t : Q} (hp : p.Four) (hq : q.Four) (ht : t.Four) : bes r t (p.add q) = (bes r t p).add (bes r t q) := by
  cases r
  · exact Q.hm_add hp hq ht
  · exact Q.hm_add' hp hq ht
theorem hm_num (m : Int) (q : Q) : q.hm ⟨2 * m, 0, 0, 0⟩ = q.smul m := by
  have : q.mul ⟨2 * m, 0, 0, 0⟩ = (q.smul m).dbl := by apply Q.ext' <;> simp only [Q.mul, Q.dbl, Q.smul] <;> grind
  unfold Q.hm
  rw [this, Q.half_dbl]
theorem num_hm (m : Int) (q : Q) : Q.hm ⟨2 * m, 0, 0, 0⟩ q = q.smul m := by
  have : Q.mul ⟨2 * m, 0, 0, 0⟩ q = (q.smul m).dbl := by apply Q.ext' <;> simp only [Q.mul, Q.dbl, Q.smul] <;> grind
  unfold Q.hm
  rw [this, Q.half_dbl]
theorem bes_undo {r : Bool} {q o : Q} (hq : q.Four) (ho : o.Four) : bes r (bes r q o) o.bar = q.smul o.size := by
  cases r
  · show o.bar.hm (o.hm q) = _
    rw [← Q.hm_assoc ho.bar ho hq, Q.bar_hm' ho, num_hm]
  · show (q.hm o).hm o.bar = _
    rw [Q.hm_assoc hq ho ho.bar, Q.hm_bar ho, hm_num]
theorem bes_undo' {r : Bool} {q o : Q} (hq : q.Four) (ho : o.Four) : bes r (bes r q o.bar) o = q.smul o.size := by
  have := bes_undo (r := r) hq ho.bar
  rwa [Q.bar_bar, Q.size_bar] at this
theorem smul_sq (k : Int) (q : Q) : (q.smul k).sq = k * k * q.sq := by
  simp only [Q.smul, Q.sq]
  grind
theorem smul_inj {k : Int} (hk : k ≠ 0) {p q : Q} (h : p.smul k = q.smul k) : p = q := by
  have h1 := congrArg Q.a h
  have h2 := congrArg Q.b h
  have h3 := congrArg Q.c h
  have h4 := congrArg Q.d h
  exact Q.ext' (Int.eq_of_mul_eq_mul_left hk h1) (Int.eq_of_mul_eq_mul_left hk h2) (Int.eq_of_mul_eq_mul_left hk h3) (Int.eq_of_mul_eq_mul_left hk h4)
theorem sub_self' (q : Q) : q.sub q = ⟨0, 0, 0, 0⟩ := by apply Q.ext' <;> simp only [Q.sub] <;> omega
theorem sub_zero_iff {p q : Q} (h : p.sub q = ⟨0, 0, 0, 0⟩) : p = q := by
  have h1 := congrArg Q.a h
  have h2 := congrArg Q.b h
  have h3 := congrArg Q.c h
  have h4 := congrArg Q.d h
  simp only [Q.sub] at h1 h2 h3 h4
  apply Q.ext' <;> omega
theorem sub_add' (p q : Q) : q.add (p.sub q) = p := by apply Q.ext' <;> simp only [Q.sub, Q.add] <;> omega
/-- what is nought times a four that is not nought, is nought -/
theorem bes_zero {r : Bool} {p q : Q} (hp : p.Four) (hq : q.Four) (h0 : q ≠ ⟨0, 0, 0, 0⟩) (h : bes r p q = ⟨0, 0, 0, 0⟩) : p = ⟨0, 0, 0, 0⟩ := by
  have h1 := bes_size (r := r) hp hq
  rw [h] at h1
  have h2 := Q.size_pos hq h0
  have h3 : Q.size ⟨0, 0, 0, 0⟩ = 0 := by decide
  rw [h3] at h1
  rcases Int.mul_eq_zero.1 h1.symm with h4 | h4
  · exact (Q.size_zero hp).1 h4
  · omega
theorem bar_ne {q : Q} (h : q ≠ ⟨0, 0, 0, 0⟩) : q.bar ≠ ⟨0, 0, 0, 0⟩ := fun e => h (by
  have := congrArg Q.bar e
  rw [Q.bar_bar] at this
  rw [this]
  rfl)
theorem zero_bes (r : Bool) (q : Q) : bes r ⟨0, 0, 0, 0⟩ q = ⟨0, 0, 0, 0⟩ := by
  cases r <;> (apply Q.ext' <;> simp only [bes, Q.hm, Q.half, Q.mul, Bool.false_eq_true, if_false, if_true, Int.zero_mul, Int.mul_zero, Int.sub_self, Int.add_zero] <;> rfl)
theorem bes_zero' (r : Bool) (q : Q) : bes r q ⟨0, 0, 0, 0⟩ = ⟨0, 0, 0, 0⟩ := by
  have := zero_bes (!r) q
  rwa [bes_against] at this

/-! ### the nearest -/
def evensQ (w : Q) (m : Int) : Q := ⟨2 * ((w.a + m) / (2 * m)), 2 * ((w.b + m) / (2 * m)), 2 * ((w.c + m) / (2 * m)), 2 * ((w.d + m) / (2 * m))⟩
def oddsQ (w : Q) (m : Int) : Q := ⟨2 * (w.a / (2 * m)) + 1, 2 * (w.b / (2 * m)) + 1, 2 * (w.c / (2 * m)) + 1, 2 * (w.d / (2 * m)) + 1⟩
def apartQ (w : Q) (m : Int) (q : Q) : Int := (w.sub (q.smul m)).sq
def nearQ (w : Q) (m : Int) : Q := if apartQ w m (oddsQ w m) < apartQ w m (evensQ w m) then oddsQ w m else evensQ w m
instance near_qc {w : Q} {m : Int} {a b : Nat} [h0 : Ps m] [h1 : QC w a] [h2 : SzC m b] : QC (nearQ w m) (max a b + 6) := by
  have e : ∀ k : Nat, Nat.log2 2 + 1 = 2 ∧ Nat.log2 1 + 1 = 1 := fun _ => by decide
  have two : SzC (2 : Int) 2 := ⟨by decide⟩
  have one : SzC (1 : Int) 1 := ⟨by decide⟩
  have ev : ∀ x : Int, SzC x a → SzC (2 * ((x + m) / (2 * m))) (max a b + 6) := fun x hx => by
    haveI := two
    exact SzC.mono (inferInstance : SzC (2 * ((x + m) / (2 * m))) (2 + (max a b + 1))) (by omega)
  have od : ∀ x : Int, SzC x a → SzC (2 * (x / (2 * m)) + 1) (max a b + 6) := fun x hx => by
    haveI := two
    haveI := one
    exact SzC.mono (inferInstance : SzC (2 * (x / (2 * m)) + 1) (max (2 + a) 1 + 1)) (by omega)
  unfold nearQ
  split
  · exact ⟨od _ h1.a, od _ h1.b, od _ h1.c, od _ h1.d⟩
  · exact ⟨ev _ h1.a, ev _ h1.b, ev _ h1.c, ev _ h1.d⟩
instance smul_qc {k : Int} {q : Q} {a b : Nat} [h1 : SzC k a] [h2 : QC q b] : QC (q.smul k) (a + b) := ⟨inferInstanceAs (SzC (k * q.a) _), inferInstanceAs (SzC (k * q.b) _), inferInstanceAs (SzC (k * q.c) _), inferInstanceAs (SzC (k * q.d) _)⟩
theorem near1 {m : Int} (hm : 0 < m) (x : Int) : (x - m * (2 * ((x + m) / (2 * m)))) * (x - m * (2 * ((x + m) / (2 * m)))) + (x - m * (2 * (x / (2 * m)) + 1)) * (x - m * (2 * (x / (2 * m)) + 1)) ≤ m * m := by
  have h2 : 0 < 2 * m := by omega
  have e := Int.mul_ediv_add_emod x (2 * m)
  have r0 := Int.emod_nonneg x (b := 2 * m) (by omega)
  have r1 := Int.emod_lt_of_pos x h2
  have e2 : (x + m) / (2 * m) = x / (2 * m) + (x % (2 * m) + m) / (2 * m) := by
    have : x + m = (x % (2 * m) + m) + 2 * m * (x / (2 * m)) := by omega
    rw [this, Int.add_mul_ediv_left _ _ (by omega)]
    have e3 : (x % (2 * m) + m + 2 * m * (x / (2 * m)) - m) = x := by omega
    rw [show x % (2 * m) + m + 2 * m * (x / (2 * m)) = x + m by omega] at *
    omega
  generalize x / (2 * m) = k at *
  generalize x % (2 * m) = ρ at *
  by_cases h : ρ < m
  · have e3 : (ρ + m) / (2 * m) = 0 := Int.ediv_eq_zero_of_lt (by omega) (by omega)
    rw [e2, e3]
    have p : 0 ≤ ρ * (m - ρ) := Int.mul_nonneg r0 (by omega)
    have a1 : x - m * (2 * (k + 0)) = ρ := by rw [← e]; grind
    have a2 : x - m * (2 * k + 1) = ρ - m := by rw [← e]; grind
    rw [a1, a2]
    grind
  · have e3 : (ρ + m) / (2 * m) = 1 := by
      have : ρ + m = (ρ - m) + 2 * m * 1 := by omega
      rw [this, Int.add_mul_ediv_left _ _ (by omega), Int.ediv_eq_zero_of_lt (by omega) (by omega)]
      rfl
    rw [e2, e3]
    have p : 0 ≤ (ρ - m) * (2 * m - ρ) := Int.mul_nonneg (by omega) (by omega)
    have a1 : x - m * (2 * (k + 1)) = ρ - 2 * m := by rw [← e]; grind
    have a2 : x - m * (2 * k + 1) = ρ - m := by rw [← e]; grind
    rw [a1, a2]
    grind
theorem near_le {m : Int} (hm : 0 < m) (w : Q) : apartQ w m (nearQ w m) ≤ 2 * (m * m) := by
  have h1 := near1 hm w.a
  have h2 := near1 hm w.b
  have h3 := near1 hm w.c
  have h4 := near1 hm w.d
  have hs : apartQ w m (evensQ w m) + apartQ w m (oddsQ w m) ≤ 4 * (m * m) := by
    unfold apartQ Q.sq evensQ oddsQ Q.sub Q.smul
    simp only
    omega
  unfold nearQ
  split <;> omega
theorem near_four (w : Q) (m : Int) : (nearQ w m).Four := by
  unfold nearQ Q.Four
  split
  · unfold oddsQ
    simp only
    omega
  · unfold evensQ
    simp only
    omega
theorem near_exact {m : Int} (hm : 0 < m) {q : Q} (hq : q.Four) : nearQ (q.smul m) m = q := by
  have h2 : 0 < 2 * m := by omega
  have key : ∀ x : Int, (x % 2 = 0 → 2 * ((m * x + m) / (2 * m)) = x) ∧ (x % 2 = 1 → 2 * (m * x / (2 * m)) + 1 = x) := fun x => by
    constructor
    · intro h
      have e : m * x + m = m + 2 * m * (x / 2) := by
        have : x = 2 * (x / 2) := by omega
        rw [show m * x = m * (2 * (x / 2)) by rw [← this]]
        grind
      rw [e, Int.add_mul_ediv_left _ _ (by omega), Int.ediv_eq_zero_of_lt (by omega) (by omega)]
      omega
    · intro h
      have e : m * x = m + 2 * m * (x / 2) := by
        have : x = 2 * (x / 2) + 1 := by omega
        rw [show m * x = m * (2 * (x / 2) + 1) by rw [← this]]
        grind
      rw [e, Int.add_mul_ediv_left _ _ (by omega), Int.ediv_eq_zero_of_lt (by omega) (by omega)]
      omega
  have z : apartQ (q.smul m) m q = 0 := by
    unfold apartQ
    rw [sub_self']
    decide
  obtain ⟨f1, f2, f3⟩ := hq
  by_cases h : q.a % 2 = 0
  · have e : evensQ (q.smul m) m = q := by
      apply Q.ext' <;> simp only [evensQ, Q.smul]
      · exact (key q.a).1 h
      · exact (key q.b).1 (by omega)
      · exact (key q.c).1 (by omega)
      · exact (key q.d).1 (by omega)
    unfold nearQ
    rw [e, z, if_neg]
    have := Q.sq_nonneg ((q.smul m).sub ((oddsQ (q.smul m) m).smul m))
    unfold apartQ
    omega
  · have e : oddsQ (q.smul m) m = q := by
      apply Q.ext' <;> simp only [oddsQ, Q.smul]
      · exact (key q.a).2 (by omega)
      · exact (key q.b).2 (by omega)
      · exact (key q.c).2 (by omega)
      · exact (key q.d).2 (by omega)
    unfold nearQ
    rw [e, z]
    have hne : apartQ (q.smul m) m (evensQ (q.smul m) m) ≠ 0 := by
      intro h0
      unfold apartQ at h0
      have h1 := sub_zero_iff (Q.sq_zero (Int.le_of_eq h0))
      have h3 := smul_inj (by omega) h1
      have h4 := congrArg Q.a h3
      unfold evensQ at h4
      simp only at h4
      omega
    have := Q.sq_nonneg ((q.smul m).sub ((evensQ (q.smul m) m).smul m))
    unfold apartQ at hne ⊢
    rw [if_pos (by omega)]

/-! ### division with a rest -/
def divQ (r : Bool) (p o : Q) : Q := nearQ (bes r p o.bar) o.size
def restQ (r : Bool) (p o : Q) : Q := p.sub (bes r (divQ r p o) o)
theorem div_four (r : Bool) (p o : Q) : (divQ r p o).Four := near_four _ _
theorem rest_four {r : Bool} {p o : Q} (hp : p.Four) (ho : o.Four) : (restQ r p o).Four := hp.sub (bes_four (div_four r p o) ho)
theorem rest_bes {r : Bool} {p o q : Q} (hp : p.Four) (ho : o.Four) (hq : q.Four) : bes r (p.sub (bes r q o)) o.bar = (bes r p o.bar).sub (q.smul o.size) := by
  rw [bes_sub hp (bes_four hq ho) ho.bar, bes_undo hq ho]
theorem rest_lt {r : Bool} {p o : Q} (hp : p.Four) (ho : o.Four) (h0 : o ≠ ⟨0, 0, 0, 0⟩) : (restQ r p o).size < o.size := by
  have hm := Q.size_pos ho h0
  have hr := rest_four (r := r) hp ho
  have h1 := rest_bes (r := r) hp ho (div_four r p o)
  have h2 := bes_size (r := r) hr ho.bar
  have h3 := Q.size4 (bes_four (r := r) hr ho.bar)
  have h4 := near_le hm (bes r p o.bar)
  unfold restQ at h2 h3
  rw [h1] at h2 h3
  rw [Q.size_bar] at h2
  have h5 : apartQ (bes r p o.bar) o.size (nearQ (bes r p o.bar) o.size) = ((bes r p o.bar).sub ((divQ r p o).smul o.size)).sq := rfl
  rw [h5, h3, h2] at h4
  unfold restQ
  generalize (p.sub (bes r (divQ r p o) o)).size = a at *
  generalize o.size = m at *
  by_cases hc : a < m
  · exact hc
  · exfalso
    have : m * m ≤ a * m := Int.mul_le_mul_of_nonneg_right (by omega) (by omega)
    have : 0 < m * m := Int.mul_pos hm hm
    omega
instance div_qc {r : Bool} {p o : Q} {a b : Nat} [h0 : Ps o.size] [h1 : QC p a] [h2 : QC o b] : QC (divQ r p o) (a + b + b + 12) := (inferInstance : QC (nearQ (bes r p o.bar) o.size) _).mono (by omega)
instance rest_qc {r : Bool} {p o : Q} {a b : Nat} [h0 : Ps o.size] [h1 : QC p a] [h2 : QC o b] : QC (restQ r p o) (a + b + b + b + 16) := (inferInstance : QC (p.sub (bes r (divQ r p o) o)) _).mono (by omega)
/-- a multiple leaves nought, and its quotient is told -/
theorem div_exact {r : Bool} {q o : Q} (hq : q.Four) (ho : o.Four) (h0 : o ≠ ⟨0, 0, 0, 0⟩) : divQ r (bes r q o) o = q ∧ restQ r (bes r q o) o = ⟨0, 0, 0, 0⟩ := by
  have h1 : divQ r (bes r q o) o = q := by
    unfold divQ
    rw [bes_undo hq ho, near_exact (Q.size_pos ho h0) hq]
  refine ⟨h1, ?_⟩
  unfold restQ
  rw [h1, sub_self']
theorem rest_zero {r : Bool} {p o : Q} (h : restQ r p o = ⟨0, 0, 0, 0⟩) : p = bes r (divQ r p o) o := sub_zero_iff h
/-- what is so many times q, is a multiple -/
theorem of_smul {r : Bool} {p o q : Q} (hp : p.Four) (ho : o.Four) (hq : q.Four) (h0 : o ≠ ⟨0, 0, 0, 0⟩) (h : bes r p o.bar = q.smul o.size) : p = bes r q o := by
  have h1 := rest_bes (r := r) hp ho hq
  rw [h, sub_self'] at h1
  exact sub_zero_iff (bes_zero (hp.sub (bes_four hq ho)) ho.bar (bar_ne h0) h1)
def exactQ (r : Bool) (p o : Q) : Option Q := if restQ r p o = ⟨0, 0, 0, 0⟩ then some (divQ r p o) else none
theorem exact_some {r : Bool} {p o q : Q} (ho : o.Four) (hq : q.Four) (h0 : o ≠ ⟨0, 0, 0, 0⟩) (h : p = bes r q o) : exactQ r p o = some q := by
  obtain ⟨h1, h2⟩ := div_exact (r := r) hq ho h0
  unfold exactQ
  rw [h, h1, h2, if_pos rfl]
theorem exact_iff {r : Bool} {p o q : Q} (ho : o.Four) (h0 : o ≠ ⟨0, 0, 0, 0⟩) : exactQ r p o = some q ↔ q.Four ∧ p = bes r q o := by
  constructor
  · intro h
    unfold exactQ at h
    split at h
    · rename_i hz
      have e := Option.some.inj h
      subst e
      exact ⟨div_four _ _ _, rest_zero hz⟩
    · cases h
  · rintro ⟨hq, h⟩
    exact exact_some ho hq h0 h
/-- found by the parts of what is wanted -/
def wantQ (r : Bool) (p o : Q) : Q := bes r p o.bar
def Q.ov (q : Q) (m : Int) : Q := ⟨q.a / m, q.b / m, q.c / m, q.d / m⟩
def Q.dvd (m : Int) (q : Q) : Prop := q.a % m = 0 ∧ q.b % m = 0 ∧ q.c % m = 0 ∧ q.d % m = 0
instance (m : Int) (q : Q) : Decidable (q.dvd m) := inferInstanceAs (Decidable (_ ∧ _ ∧ _ ∧ _))
theorem ov_smul {m : Int} (hm : m ≠ 0) (q : Q) : (q.smul m).ov m = q ∧ (q.smul m).dvd m := by
  unfold Q.ov Q.smul Q.dvd
  simp only [Int.mul_ediv_cancel_left _ hm, Int.mul_emod_right, and_self]
theorem smul_ov {m : Int} {q : Q} (h : q.dvd m) : (q.ov m).smul m = q := by
  obtain ⟨h1, h2, h3, h4⟩ := h
  have e : ∀ x : Int, x % m = 0 → m * (x / m) = x := fun x h => by have := Int.mul_ediv_add_emod x m; omega
  exact Q.ext' (e _ h1) (e _ h2) (e _ h3) (e _ h4)
theorem exact_parts {r : Bool} {p o : Q} (hp : p.Four) (ho : o.Four) (h0 : o ≠ ⟨0, 0, 0, 0⟩) :
    exactQ r p o = if (wantQ r p o).dvd o.size ∧ ((wantQ r p o).ov o.size).Four then some ((wantQ r p o).ov o.size) else none := by
  have hm := Q.size_pos ho h0
  by_cases h : (wantQ r p o).dvd o.size ∧ ((wantQ r p o).ov o.size).Four
  · rw [if_pos h]
    exact exact_some ho h.2 h0 (of_smul hp ho h.2 h0 (smul_ov h.1).symm)
  · rw [if_neg h]
    unfold exactQ
    rw [if_neg]
    intro hz
    apply h
    have e := rest_zero hz
    have e2 : wantQ r p o = (divQ r p o).smul o.size := by
      unfold wantQ
      conv => lhs; rw [e]
      exact bes_undo (div_four _ _ _) ho
    rw [e2]
    obtain ⟨e3, e4⟩ := ov_smul (show o.size ≠ 0 by omega) (divQ r p o)
    rw [e3]
    exact ⟨e4, div_four _ _ _⟩
end HD

set_option Elab.async false
set_option linter.all false
set_option maxRecDepth 100000
/-! Gd: greatest divisors -/
namespace HD
open PySem L2
theorem rest_half {r : Bool} {p o : Q} (hp : p.Four) (ho : o.Four) (h0 : o ≠ ⟨0, 0, 0, 0⟩) : 2 * (restQ r p o).size ≤ o.size := by
  have hm := Q.size_pos ho h0
  have hr := rest_four (r := r) hp ho
  have h1 := rest_bes (r := r) hp ho (div_four r p o)
  have h2 := bes_size (r := r) hr ho.bar
  have h3 := Q.size4 (bes_four (r := r) hr ho.bar)
  have h4 := near_le hm (bes r p o.bar)
  unfold restQ at h2 h3
  rw [h1] at h2 h3
  rw [Q.size_bar] at h2
  have h5 : apartQ (bes r p o.bar) o.size (nearQ (bes r p o.bar) o.size) = ((bes r p o.bar).sub ((divQ r p o).smul o.size)).sq := rfl
  rw [h5, h3, h2] at h4
  unfold restQ
  generalize (p.sub (bes r (divQ r p o) o)).size = a at *
  generalize o.size = m at *
  by_cases hc : 2 * a ≤ m
  · exact hc
  · exfalso
    have : m * m < 2 * a * m := Int.mul_lt_mul_of_pos_right (by omega) hm
    have e : 2 * a * m = 2 * (a * m) := Int.mul_assoc _ _ _
    omega
theorem lt_of_sq {x : Int} {b : Nat} (h : x * x < 2 ^ b * 2 ^ b) : SzC x b := ⟨by
  have e : ((x.natAbs * x.natAbs : Nat) : Int) = x * x := by rw [Int.natCast_mul]; exact Int.natAbs_mul_self' x
  have h2 : x.natAbs * x.natAbs < 2 ^ b * 2 ^ b := by
    have : ((x.natAbs * x.natAbs : Nat) : Int) < ((2 ^ b * 2 ^ b : Nat) : Int) := by
      rw [e]
      push_cast
      exact h
    exact Int.ofNat_lt.1 this
  exact Nat.lt_of_not_le fun hle => Nat.not_lt.2 (Nat.mul_le_mul hle hle) h2⟩
theorem qc_of_size {q : Q} {b : Nat} (h : q.Four) (hs : 4 * q.size < 2 ^ b * 2 ^ b) : QC q b := by
  have h1 := sq_nn q.a
  have h2 := sq_nn q.b
  have h3 := sq_nn q.c
  have h4 := sq_nn q.d
  have h5 := Q.size4 h
  unfold Q.sq at h5
  exact ⟨lt_of_sq (by omega), lt_of_sq (by omega), lt_of_sq (by omega), lt_of_sq (by omega)⟩
structure G3 where
  a : Q
  s : Q
  t : Q
def G3.dt (A : G3) : D := .tup [A.a.dt, A.s.dt, A.t.dt]
def stepQ (r : Bool) (A B : G3) : G3 := ⟨restQ r A.a B.a, A.s.sub (bes r (divQ r A.a B.a) B.s), A.t.sub (bes r (divQ r A.a B.a) B.t)⟩
def gq (r : Bool) : Nat → G3 → G3 → G3
  | 0, A, _ => A
  | n + 1, A, B => if B.a = ⟨0, 0, 0, 0⟩ then A else gq r n B (stepQ r A B)
def gdQ (r : Bool) (p o : Q) : G3 := gq r 1998 ⟨p, ⟨2, 0, 0, 0⟩, ⟨0, 0, 0, 0⟩⟩ ⟨o, ⟨0, 0, 0, 0⟩, ⟨2, 0, 0, 0⟩⟩
/-- a sum of multiples of p and o, all fours -/
structure G3.Of (r : Bool) (p o : Q) (A : G3) : Prop where
  fa : A.a.Four
  fs : A.s.Four
  ft : A.t.Four
  eq : A.a = (bes r A.s p).add (bes r A.t o)
theorem step_of {r : Bool} {p o : Q} (hp : p.Four) (ho : o.Four) {A B : G3} (ha : A.Of r p o) (hb : B.Of r p o) : (stepQ r A B).Of r p o := by
  have hq := div_four r A.a B.a
  refine ⟨rest_four ha.fa hb.fa, ha.fs.sub (bes_four hq hb.fs), ha.ft.sub (bes_four hq hb.ft), ?_⟩
  show A.a.sub (bes r (divQ r A.a B.a) B.a) = _
  have e1 : A.a.sub (bes r (divQ r A.a B.a) B.a) = ((bes r A.s p).add (bes r A.t o)).sub (bes r (divQ r A.a B.a) ((bes r B.s p).add (bes r B.t o))) := by rw [← ha.eq, ← hb.eq]
  rw [e1, bes_add' (bes_four hb.fs hp) (bes_four hb.ft ho) hq, ← bes_assoc hq hb.fs hp, ← bes_assoc hq hb.ft ho]
  show _ = (bes r (A.s.sub (bes r (divQ r A.a B.a) B.s)) p).add (bes r (A.t.sub (bes r (divQ r A.a B.a) B.t)) o)
  rw [bes_sub ha.fs (bes_four hq hb.fs) hp, bes_sub ha.ft (bes_four hq hb.ft) ho]
  apply Q.ext' <;> simp only [Q.add, Q.sub] <;> omega
theorem gq_spec {r : Bool} {p o : Q} (hp : p.Four) (ho : o.Four) : ∀ (n : Nat) (A B : G3), A.Of r p o → B.Of r p o → B.a.size < 2 ^ n →
    (gq r n A B).Of r p o ∧ ∃ u v : Q, u.Four ∧ v.Four ∧ A.a = bes r u (gq r n A B).a ∧ B.a = bes r v (gq r n A B).a := by
  intro n
  induction n with
  | zero =>
    intro A B ha hb h
    have h0 : B.a = ⟨0, 0, 0, 0⟩ := (Q.size_zero hb.fa).1 (by have := B.a.size_nonneg; omega)
    exact ⟨ha, ⟨2, 0, 0, 0⟩, ⟨0, 0, 0, 0⟩, Q.one_four, Q.four_0, (one_bes r _).symm, by rw [h0]; exact (zero_bes r _).symm⟩
  | succ n ih =>
    intro A B ha hb h
    unfold gq
    by_cases h0 : B.a = ⟨0, 0, 0, 0⟩
    · rw [if_pos h0]
      exact ⟨ha, ⟨2, 0, 0, 0⟩, ⟨0, 0, 0, 0⟩, Q.one_four, Q.four_0, (one_bes r _).symm, by rw [h0]; exact (zero_bes r _).symm⟩
    · rw [if_neg h0]
      have hh := rest_half (r := r) ha.fa hb.fa h0
      have hlt : (stepQ r A B).a.size < 2 ^ n := by
        show (restQ r A.a B.a).size < 2 ^ n
        rw [Int.pow_succ] at h
        omega
      obtain ⟨g1, u, v, hu, hv, e1, e2⟩ := ih B (stepQ r A B) hb (step_of hp ho ha hb) hlt
      refine ⟨g1, (bes r (divQ r A.a B.a) u).add v, u, (bes_four (div_four _ _ _) hu).add hv, hu, ?_, e1⟩
      rw [bes_add (bes_four (div_four _ _ _) hu) hv g1.fa, bes_assoc (div_four _ _ _) hu g1.fa, ← e1, ← e2]
      exact (sub_add' _ _).symm
theorem gdQ_spec {r : Bool} {p o : Q} (hp : p.Four) (ho : o.Four) (hs : o.size < 2 ^ 1998) :
    (gdQ r p o).Of r p o ∧ ∃ u v : Q, u.Four ∧ v.Four ∧ p = bes r u (gdQ r p o).a ∧ o = bes r v (gdQ r p o).a := by
  refine gq_spec hp ho 1998 _ _ ⟨hp, Q.one_four, Q.four_0, ?_⟩ ⟨ho, Q.four_0, Q.one_four, ?_⟩ hs
  · rw [one_bes, zero_bes]
    apply Q.ext' <;> simp only [Q.add] <;> omega
  · rw [one_bes, zero_bes]
    apply Q.ext' <;> simp only [Q.add] <;> omega
theorem szc_lt {x : Int} {n k : Nat} (h : SzC x n) (hk : n ≤ k) : x < 2 ^ k := by
  have h1 := (h.mono hk).lt
  have h2 : x ≤ (x.natAbs : Int) := Int.le_natAbs
  have h3 : ((x.natAbs : Nat) : Int) < ((2 ^ k : Nat) : Int) := Int.ofNat_lt.2 h1
  push_cast at h3
  exact Int.lt_of_le_of_lt h2 h3

theorem gq_sz {r : Bool} {p o : Q} (hp : p.Four) (ho : o.Four) : ∀ (n : Nat) (A B : G3) (c : Nat), A.Of r p o → B.Of r p o → A.a.size < 2 ^ 1998 → B.a.size < 2 ^ 1998 → QC A.s c → QC A.t c → QC B.s c → QC B.t c →
    QC (gq r n A B).a 1000 ∧ QC (gq r n A B).s (c + n * 3030) ∧ QC (gq r n A B).t (c + n * 3030) := by
  have big : (4 : Int) * 2 ^ 1998 = 2 ^ 1000 * 2 ^ 1000 := by decide +kernel
  intro n
  induction n with
  | zero =>
    intro A B c ha hb s1 s2 q1 q2 q3 q4
    show QC A.a 1000 ∧ QC A.s _ ∧ QC A.t _
    exact ⟨qc_of_size ha.fa (by omega), q1.mono (by omega), q2.mono (by omega)⟩
  | succ n ih =>
    intro A B c ha hb s1 s2 q1 q2 q3 q4
    unfold gq
    by_cases h0 : B.a = ⟨0, 0, 0, 0⟩
    · rw [if_pos h0]
      exact ⟨qc_of_size ha.fa (by omega), q1.mono (by omega), q2.mono (by omega)⟩
    · rw [if_neg h0]
      have hh := rest_half (r := r) ha.fa hb.fa h0
      have hn := (restQ r A.a B.a).size_nonneg
      haveI i1 : QC A.a 1000 := qc_of_size ha.fa (by omega)
      haveI i2 : QC B.a 1000 := qc_of_size hb.fa (by omega)
      haveI : Ps B.a.size := ⟨Q.size_pos hb.fa h0⟩
      haveI := q1
      haveI := q2
      haveI := q3
      haveI := q4
      have e2 : (stepQ r A B).a.size < 2 ^ 1998 := by
        show (restQ r A.a B.a).size < 2 ^ 1998
        omega
      have e3 : QC (stepQ r A B).s (c + 3030) := QC.mono (inferInstance : QC (A.s.sub (bes r (divQ r A.a B.a) B.s)) (max c (1000 + 1000 + 1000 + 12 + c + 3) + 1)) (by omega)
      have e4 : QC (stepQ r A B).t (c + 3030) := QC.mono (inferInstance : QC (A.t.sub (bes r (divQ r A.a B.a) B.t)) (max c (1000 + 1000 + 1000 + 12 + c + 3) + 1)) (by omega)
      obtain ⟨g1, g2, g3⟩ := ih B (stepQ r A B) (c + 3030) hb (step_of hp ho ha hb) s2 e2 (q3.mono (by omega)) (q4.mono (by omega)) e3 e4
      exact ⟨g1, g2.mono (by omega), g3.mono (by omega)⟩
theorem gdQ_sz {r : Bool} {p o : Q} (hp : p.Four) (ho : o.Four) (s1 : p.size < 2 ^ 1998) (s2 : o.size < 2 ^ 1998) : QC (gdQ r p o).a 1000 ∧ QC (gdQ r p o).s 6100000 ∧ QC (gdQ r p o).t 6100000 := by
  have z1 : QC (⟨2, 0, 0, 0⟩ : Q) 2 := ⟨⟨by decide⟩, ⟨by decide⟩, ⟨by decide⟩, ⟨by decide⟩⟩
  have z0 : QC (⟨0, 0, 0, 0⟩ : Q) 2 := ⟨⟨by decide⟩, ⟨by decide⟩, ⟨by decide⟩, ⟨by decide⟩⟩
  obtain ⟨g1, g2, g3⟩ := gq_sz (r := r) hp ho 1998 ⟨p, ⟨2, 0, 0, 0⟩, ⟨0, 0, 0, 0⟩⟩ ⟨o, ⟨0, 0, 0, 0⟩, ⟨2, 0, 0, 0⟩⟩ 2
    ⟨hp, Q.one_four, Q.four_0, by rw [one_bes, zero_bes]; apply Q.ext' <;> simp only [Q.add] <;> omega⟩ ⟨ho, Q.four_0, Q.one_four, by rw [one_bes, zero_bes]; apply Q.ext' <;> simp only [Q.add] <;> omega⟩ s1 s2 z1 z0 z0 z1
  exact ⟨g1, g2.mono (by decide), g3.mono (by decide)⟩
end HD

set_option Elab.async false
set_option linter.all false
set_option maxRecDepth 100000
/-! Tb: whole numbers' greatest divisor, spots, tables in lowest terms -/
namespace HD
open PySem L2
/-! ### greatest divisors of whole numbers -/
def gcdN (l : List Int) (g : Nat) : Nat := l.foldl (fun g x => Nat.gcd g x.natAbs) g
def gcdL (l : List Int) : Int := (gcdN l 0 : Nat)
theorem modD_n {i j : Int} (h : j ≠ 0) : modD (.int i) (.int j) = some (.v (.int (i.fmod j))) := by
  show (if j = 0 then none else some (Vn.v (D.int (i.fmod j)))) = _
  rw [if_neg h]
theorem fmod_lt {f o : Int} (h : o ≠ 0) : (f.fmod o).natAbs < o.natAbs := by
  rcases Int.lt_or_gt_of_ne h with h' | h
  · have h1 : f.fmod o = f % o + if 0 ≤ o ∨ o ∣ f then 0 else o := Int.fmod_eq_emod
    have h2 := Int.emod_nonneg f h
    have h3 := Int.emod_lt_of_neg f h'
    by_cases hd : 0 ≤ o ∨ o ∣ f
    · rw [if_pos hd] at h1
      rcases hd with hd | hd
      · omega
      · rw [Int.emod_eq_zero_of_dvd hd] at h1
        omega
    · rw [if_neg hd] at h1
      have h4 : f % o ≠ 0 := fun e => hd (.inr (Int.dvd_of_emod_eq_zero e))
      omega
  · rw [Int.fmod_eq_emod_of_nonneg _ (by omega)]
    have h2 := Int.emod_nonneg f (b := o) (by omega)
    have h3 := Int.emod_lt_of_pos f h
    omega
theorem fmod_gcd (f o : Int) : Nat.gcd o.natAbs (f.fmod o).natAbs = Nat.gcd f.natAbs o.natAbs := by
  have e : f.fmod o = f - o * f.fdiv o := Int.fmod_def f o
  apply Nat.dvd_antisymm
  · apply Nat.dvd_gcd
    · have h1 : (Nat.gcd o.natAbs (f.fmod o).natAbs : Int) ∣ o := Int.ofNat_dvd_left.2 (Nat.gcd_dvd_left _ _)
      have h2 : (Nat.gcd o.natAbs (f.fmod o).natAbs : Int) ∣ f.fmod o := Int.ofNat_dvd_left.2 (Nat.gcd_dvd_right _ _)
      have h3 : (Nat.gcd o.natAbs (f.fmod o).natAbs : Int) ∣ f := by
        have e2 : f.fmod o + o * f.fdiv o = f := by omega
        have h4 := Int.dvd_add h2 (Int.dvd_mul_of_dvd_left h1 (c := f.fdiv o))
        rwa [e2] at h4
      exact Int.ofNat_dvd_left.1 h3
    · exact Nat.gcd_dvd_left _ _
  · apply Nat.dvd_gcd
    · exact Nat.gcd_dvd_right _ _
    · have h1 : (Nat.gcd f.natAbs o.natAbs : Int) ∣ f := Int.ofNat_dvd_left.2 (Nat.gcd_dvd_left _ _)
      have h2 : (Nat.gcd f.natAbs o.natAbs : Int) ∣ o := Int.ofNat_dvd_left.2 (Nat.gcd_dvd_right _ _)
      have h3 : (Nat.gcd f.natAbs o.natAbs : Int) ∣ f.fmod o := by
        rw [e]
        exact Int.dvd_sub h1 (Int.dvd_mul_of_dvd_left h2)
      exact Int.ofNat_dvd_left.1 h3
theorem gcdN_scale (k : Nat) : ∀ (l : List Int) (g : Nat), gcdN (l.map fun x => (k : Int) * x) (k * g) = k * gcdN l g
  | [], g => rfl
  | x :: l, g => by
    show gcdN (l.map _) (Nat.gcd (k * g) ((k : Int) * x).natAbs) = k * gcdN l (Nat.gcd g x.natAbs)
    rw [Int.natAbs_mul, Int.natAbs_natCast, Nat.gcd_mul_left, gcdN_scale k l]
theorem gcdL_scale (k : Nat) (l : List Int) : gcdL (l.map fun x => (k : Int) * x) = k * gcdL l := by
  have := gcdN_scale k l 0
  rw [Nat.mul_zero] at this
  unfold gcdL
  rw [this, Int.natCast_mul]
theorem gcdN_dvd : ∀ (l : List Int) (g : Nat), gcdN l g ∣ g ∧ ∀ x ∈ l, gcdN l g ∣ x.natAbs
  | [], g => ⟨Nat.dvd_refl _, fun _ h => nomatch h⟩
  | x :: l, g => by
    obtain ⟨h1, h2⟩ := gcdN_dvd l (Nat.gcd g x.natAbs)
    refine ⟨Nat.dvd_trans h1 (Nat.gcd_dvd_left _ _), fun y hy => ?_⟩
    rcases List.mem_cons.1 hy with e | hy
    · rw [e]
      exact Nat.dvd_trans h1 (Nat.gcd_dvd_right _ _)
    · exact h2 y hy
theorem gcdL_dvd {l : List Int} {x : Int} (h : x ∈ l) : gcdL l ∣ x := Int.ofNat_dvd_left.2 ((gcdN_dvd l 0).2 x h)
theorem gcdL_nonneg (l : List Int) : 0 ≤ gcdL l := Int.natCast_nonneg _
theorem gcdL_pos {l : List Int} {x : Int} (h : x ∈ l) (hx : x ≠ 0) : 0 < gcdL l := by
  have h1 := gcdL_nonneg l
  have h2 : gcdL l ≠ 0 := fun e => hx (Int.zero_dvd.1 (by rw [← e]; exact gcdL_dvd h))
  omega
theorem gcdL_le {l : List Int} {x : Int} (h : x ∈ l) (hx : 0 < x) : gcdL l ≤ x := Int.le_of_dvd hx (gcdL_dvd h)
/-- in lowest terms -/
def lowL (l : List Int) : List Int := l.map (· / gcdL l)
theorem mul_low {l : List Int} (h : 0 < gcdL l) : (lowL l).map (fun x => gcdL l * x) = l := by
  unfold lowL
  rw [List.map_map]
  conv => rhs; rw [← List.map_id l]
  apply List.map_congr_left
  intro x hx
  show gcdL l * (x / gcdL l) = x
  exact Int.mul_ediv_cancel' (gcdL_dvd hx)
theorem gcdL_low {l : List Int} (h : 0 < gcdL l) : gcdL (lowL l) = 1 := by
  have h1 := gcdL_scale (gcdN l 0) (lowL l)
  have e : ((gcdN l 0 : Nat) : Int) = gcdL l := rfl
  rw [e, mul_low h] at h1
  have h2 : gcdL l * 1 = gcdL l * gcdL (lowL l) := by omega
  exact (Int.eq_of_mul_eq_mul_left (by omega) h2).symm
theorem low_scale {k : Int} (hk : 0 < k) {l : List Int} (h : 0 < gcdL l) : lowL (l.map fun x => k * x) = lowL l := by
  obtain ⟨m, rfl⟩ := Int.eq_ofNat_of_zero_le (Int.le_of_lt hk)
  unfold lowL
  rw [gcdL_scale, List.map_map]
  apply List.map_congr_left
  intro x hx
  show (m : Int) * x / (m * gcdL l) = x / gcdL l
  exact Int.mul_ediv_mul_of_pos _ _ hk
/-! ### spots, tables -/
structure V3 where
  x : Int
  y : Int
  z : Int
deriving DecidableEq
structure M3 where
  a : V3
  b : V3
  c : V3
deriving DecidableEq
def V3.tp (v : V3) : D := .tup [.int v.x, .int v.y, .int v.z]
def V3.ls (v : V3) : D := .lst [.int v.x, .int v.y, .int v.z]
def M3.tp (m : M3) : D := .tup [m.a.tp, m.b.tp, m.c.tp]
def M3.ls (m : M3) : D := .lst [m.a.ls, m.b.ls, m.c.ls]
def tab (n : Int) (m : M3) : D := .tup [.int n, m.tp]
def V3.dot (v w : V3) : Int := v.x * w.x + v.y * w.y + v.z * w.z
def M3.col (m : M3) : M3 := ⟨⟨m.a.x, m.b.x, m.c.x⟩, ⟨m.a.y, m.b.y, m.c.y⟩, ⟨m.a.z, m.b.z, m.c.z⟩⟩
def M3.app (m : M3) (v : V3) : V3 := ⟨m.a.dot v, m.b.dot v, m.c.dot v⟩
def M3.mul (p q : M3) : M3 := ⟨q.col.app p.a, q.col.app p.b, q.col.app p.c⟩
def V3.ov (v : V3) (g : Int) : V3 := ⟨v.x / g, v.y / g, v.z / g⟩
def M3.ov (m : M3) (g : Int) : M3 := ⟨m.a.ov g, m.b.ov g, m.c.ov g⟩
def V3.sm (k : Int) (v : V3) : V3 := ⟨k * v.x, k * v.y, k * v.z⟩
def M3.sm (k : Int) (m : M3) : M3 := ⟨m.a.sm k, m.b.sm k, m.c.sm k⟩
def V3.l (v : V3) : List Int := [v.x, v.y, v.z]
def M3.l (m : M3) : List Int := [m.a.x, m.a.y, m.a.z, m.b.x, m.b.y, m.b.z, m.c.x, m.c.y, m.c.z]
theorem V3.ext' {v w : V3} (h1 : v.x = w.x) (h2 : v.y = w.y) (h3 : v.z = w.z) : v = w := by
  cases v
  cases w
  simp only at h1 h2 h3
  rw [h1, h2, h3]
theorem M3.ext' {v w : M3} (h1 : v.a = w.a) (h2 : v.b = w.b) (h3 : v.c = w.c) : v = w := by
  cases v
  cases w
  simp only at h1 h2 h3
  rw [h1, h2, h3]
class VC (v : V3) (n : outParam Nat) : Prop where
  x : SzC v.x n
  y : SzC v.y n
  z : SzC v.z n
class MC (m : M3) (n : outParam Nat) : Prop where
  a : VC m.a n
  b : VC m.b n
  c : VC m.c n
theorem VC.mono {v : V3} {m : Nat} (h : VC v m) {n : Nat} (l : m ≤ n) : VC v n := ⟨h.x.mono l, h.y.mono l, h.z.mono l⟩
theorem MC.mono {v : M3} {m : Nat} (h : MC v m) {n : Nat} (l : m ≤ n) : MC v n := ⟨h.a.mono l, h.b.mono l, h.c.mono l⟩
instance vc_x {v : V3} {n : Nat} [h : VC v n] : SzC v.x n := h.x
instance vc_y {v : V3} {n : Nat} [h : VC v n] : SzC v.y n := h.y
instance vc_z {v : V3} {n : Nat} [h : VC v n] : SzC v.z n := h.z
instance mc_a {v : M3} {n : Nat} [h : MC v n] : VC v.a n := h.a
instance mc_b {v : M3} {n : Nat} [h : MC v n] : VC v.b n := h.b
instance mc_c {v : M3} {n : Nat} [h : MC v n] : VC v.c n := h.c
instance vc_mk {a b c : Int} {k l m : Nat} [h1 : SzC a k] [h2 : SzC b l] [h3 : SzC c m] : VC ⟨a, b, c⟩ (max (max k l) m) := ⟨h1.mono (by omega), h2.mono (by omega), h3.mono (by omega)⟩
instance mc_mk {a b c : V3} {k l m : Nat} [h1 : VC a k] [h2 : VC b l] [h3 : VC c m] : MC ⟨a, b, c⟩ (max (max k l) m) := ⟨h1.mono (by omega), h2.mono (by omega), h3.mono (by omega)⟩
instance sz_dot {v w : V3} {m n : Nat} [VC v m] [VC w n] : SzC (v.dot w) (m + n + 2) := by
  unfold V3.dot
  exact SzC.mono inferInstance (by omega)
instance mc_col {m : M3} {n : Nat} [h : MC m n] : MC m.col n := ⟨⟨h.a.x, h.b.x, h.c.x⟩, ⟨h.a.y, h.b.y, h.c.y⟩, ⟨h.a.z, h.b.z, h.c.z⟩⟩
instance vc_app {p : M3} {v : V3} {m n : Nat} [MC p m] [VC v n] : VC (p.app v) (m + n + 2) := ⟨inferInstanceAs (SzC (p.a.dot v) _), inferInstanceAs (SzC (p.b.dot v) _), inferInstanceAs (SzC (p.c.dot v) _)⟩
instance mc_mul {p q : M3} {m n : Nat} [MC p m] [MC q n] : MC (p.mul q) (n + m + 2) := ⟨inferInstanceAs (VC (q.col.app p.a) _), inferInstanceAs (VC (q.col.app p.b) _), inferInstanceAs (VC (q.col.app p.c) _)⟩
instance vc_ov {v : V3} {g : Int} {n : Nat} [Ps g] [VC v n] : VC (v.ov g) n := ⟨inferInstanceAs (SzC (v.x / g) n), inferInstanceAs (SzC (v.y / g) n), inferInstanceAs (SzC (v.z / g) n)⟩
instance mc_ov {v : M3} {g : Int} {n : Nat} [Ps g] [MC v n] : MC (v.ov g) n := ⟨inferInstanceAs (VC (v.a.ov g) n), inferInstanceAs (VC (v.b.ov g) n), inferInstanceAs (VC (v.c.ov g) n)⟩
instance vc_sm {v : V3} {g : Int} {m n : Nat} [SzC g m] [VC v n] : VC (v.sm g) (m + n) := ⟨inferInstanceAs (SzC (g * v.x) _), inferInstanceAs (SzC (g * v.y) _), inferInstanceAs (SzC (g * v.z) _)⟩
instance mc_sm {v : M3} {g : Int} {m n : Nat} [SzC g m] [MC v n] : MC (v.sm g) (m + n) := ⟨inferInstanceAs (VC (v.a.sm g) _), inferInstanceAs (VC (v.b.sm g) _), inferInstanceAs (VC (v.c.sm g) _)⟩
/-! algebra -/
theorem M3.mul_assoc (p q r : M3) : (p.mul q).mul r = p.mul (q.mul r) := by
  apply M3.ext' <;> apply V3.ext' <;> simp only [M3.mul, M3.app, M3.col, V3.dot] <;> grind
theorem M3.app_mul (p q : M3) (v : V3) : (p.mul q).app v = p.app (q.app v) := by
  apply V3.ext' <;> simp only [M3.mul, M3.app, M3.col, V3.dot] <;> grind
theorem M3.sm_mul (k : Int) (p q : M3) : (p.sm k).mul q = (p.mul q).sm k := by
  apply M3.ext' <;> apply V3.ext' <;> simp only [M3.mul, M3.app, M3.col, V3.dot, M3.sm, V3.sm] <;> grind
theorem M3.mul_sm (k : Int) (p q : M3) : p.mul (q.sm k) = (p.mul q).sm k := by
  apply M3.ext' <;> apply V3.ext' <;> simp only [M3.mul, M3.app, M3.col, V3.dot, M3.sm, V3.sm] <;> grind
theorem M3.sm_app (k : Int) (p : M3) (v : V3) : (p.sm k).app v = (p.app v).sm k := by
  apply V3.ext' <;> simp only [M3.app, V3.dot, M3.sm, V3.sm] <;> grind
theorem M3.app_sm (k : Int) (p : M3) (v : V3) : p.app (v.sm k) = (p.app v).sm k := by
  apply V3.ext' <;> simp only [M3.app, V3.dot, V3.sm] <;> grind
def M3.one : M3 := ⟨⟨1, 0, 0⟩, ⟨0, 1, 0⟩, ⟨0, 0, 1⟩⟩
theorem M3.one_mul (p : M3) : M3.one.mul p = p := by
  apply M3.ext' <;> apply V3.ext' <;> simp only [M3.mul, M3.app, M3.col, V3.dot, M3.one] <;> grind
/-! a table and a spot over n, in lowest terms -/
def gT (n : Int) (m : M3) : Int := gcdL (n :: m.l)
def gV (n : Int) (v : V3) : Int := gcdL (n :: v.l)
theorem gT_pos {n : Int} (m : M3) (h : 0 < n) : 0 < gT n m := gcdL_pos (List.mem_cons_self ..) (by omega)
theorem gV_pos {n : Int} (v : V3) (h : 0 < n) : 0 < gV n v := gcdL_pos (List.mem_cons_self ..) (by omega)
theorem gT_sz {n : Int} {m : M3} {k : Nat} (h : 0 < n) (hs : SzC n k) : SzC (gT n m) k := by
  have h1 := gT_pos m h
  have h2 := gcdL_le (l := n :: m.l) (List.mem_cons_self ..) h
  have h3 := hs.lt
  refine ⟨?_⟩
  unfold gT at *
  omega
theorem gV_sz {n : Int} {m : V3} {k : Nat} (h : 0 < n) (hs : SzC n k) : SzC (gV n m) k := by
  have h1 := gV_pos m h
  have h2 := gcdL_le (l := n :: m.l) (List.mem_cons_self ..) h
  have h3 := hs.lt
  refine ⟨?_⟩
  unfold gV at *
  omega
theorem lowT_l (n : Int) (m : M3) : (n / gT n m) :: (m.ov (gT n m)).l = lowL (n :: m.l) := rfl
theorem lowV_l (n : Int) (m : V3) : (n / gV n m) :: (m.ov (gV n m)).l = lowL (n :: m.l) := rfl
theorem M3.l_inj {p q : M3} (h : p.l = q.l) : p = q := by
  unfold M3.l at h
  simp only [List.cons.injEq] at h
  obtain ⟨h1, h2, h3, h4, h5, h6, h7, h8, h9, -⟩ := h
  exact M3.ext' (V3.ext' h1 h2 h3) (V3.ext' h4 h5 h6) (V3.ext' h7 h8 h9)
theorem V3.l_inj {p q : V3} (h : p.l = q.l) : p = q := by
  unfold V3.l at h
  simp only [List.cons.injEq] at h
  obtain ⟨h1, h2, h3, -⟩ := h
  exact V3.ext' h1 h2 h3
theorem lowT_scale {k n : Int} (hk : 0 < k) (hn : 0 < n) (m : M3) : k * n / gT (k * n) (m.sm k) = n / gT n m ∧ (m.sm k).ov (gT (k * n) (m.sm k)) = m.ov (gT n m) := by
  have h := low_scale hk (l := n :: m.l) (gT_pos m hn)
  have e : (n :: m.l).map (fun x => k * x) = (k * n) :: (m.sm k).l := rfl
  rw [e, ← lowT_l, ← lowT_l] at h
  exact ⟨(List.cons.inj h).1, M3.l_inj (List.cons.inj h).2⟩
theorem lowV_scale {k n : Int} (hk : 0 < k) (hn : 0 < n) (m : V3) : k * n / gV (k * n) (m.sm k) = n / gV n m ∧ (m.sm k).ov (gV (k * n) (m.sm k)) = m.ov (gV n m) := by
  have h := low_scale hk (l := n :: m.l) (gV_pos m hn)
  have e : (n :: m.l).map (fun x => k * x) = (k * n) :: (m.sm k).l := rfl
  rw [e, ← lowV_l, ← lowV_l] at h
  exact ⟨(List.cons.inj h).1, V3.l_inj (List.cons.inj h).2⟩
theorem lowT_back {n : Int} (hn : 0 < n) (m : M3) : gT n m * (n / gT n m) = n ∧ (m.ov (gT n m)).sm (gT n m) = m := by
  have h := mul_low (l := n :: m.l) (gT_pos m hn)
  have e : (lowL (n :: m.l)).map (fun x => gcdL (n :: m.l) * x) = (gT n m * (n / gT n m)) :: ((m.ov (gT n m)).sm (gT n m)).l := rfl
  rw [e] at h
  exact ⟨(List.cons.inj h).1, M3.l_inj (List.cons.inj h).2⟩
theorem lowV_back {n : Int} (hn : 0 < n) (m : V3) : gV n m * (n / gV n m) = n ∧ (m.ov (gV n m)).sm (gV n m) = m := by
  have h := mul_low (l := n :: m.l) (gV_pos m hn)
  have e : (lowL (n :: m.l)).map (fun x => gcdL (n :: m.l) * x) = (gV n m * (n / gV n m)) :: ((m.ov (gV n m)).sm (gV n m)).l := rfl
  rw [e] at h
  exact ⟨(List.cons.inj h).1, V3.l_inj (List.cons.inj h).2⟩
theorem lowT_gcd {n : Int} (hn : 0 < n) (m : M3) : gT (n / gT n m) (m.ov (gT n m)) = 1 := by
  have := gcdL_low (l := n :: m.l) (gT_pos m hn)
  rwa [← lowT_l] at this
theorem lowV_gcd {n : Int} (hn : 0 < n) (m : V3) : gV (n / gV n m) (m.ov (gV n m)) = 1 := by
  have := gcdL_low (l := n :: m.l) (gV_pos m hn)
  rwa [← lowV_l] at this
theorem low_pos {g n : Int} (hn : 0 < n) (hg : 0 < g) (hd : g * (n / g) = n) : 0 < n / g := by
  by_cases h : 0 < n / g
  · exact h
  · have : g * (n / g) ≤ 0 := Int.mul_nonpos_of_nonneg_of_nonpos (by omega) (by omega)
    omega
theorem lowT_pos {n : Int} (hn : 0 < n) (m : M3) : 0 < n / gT n m := low_pos hn (gT_pos m hn) (lowT_back hn m).1
theorem lowV_pos {n : Int} (hn : 0 < n) (m : V3) : 0 < n / gV n m := low_pos hn (gV_pos m hn) (lowV_back hn m).1
theorem M3.sm_sm (a b : Int) (m : M3) : (m.sm a).sm b = m.sm (b * a) := by
  apply M3.ext' <;> apply V3.ext' <;> simp only [M3.sm, V3.sm] <;> grind
theorem V3.sm_sm (a b : Int) (m : V3) : (m.sm a).sm b = m.sm (b * a) := by
  apply V3.ext' <;> simp only [V3.sm] <;> grind
theorem lowT_cross {n : Int} (hn : 0 < n) (m : M3) : (m.ov (gT n m)).sm n = m.sm (n / gT n m) := by
  obtain ⟨h1, h2⟩ := lowT_back hn m
  generalize hg : gT n m = g at *
  generalize hk : n / g = k at *
  generalize hp : m.ov g = p at *
  rw [← h1, ← h2, M3.sm_sm, Int.mul_comm]
theorem lowV_cross {n : Int} (hn : 0 < n) (m : V3) : (m.ov (gV n m)).sm n = m.sm (n / gV n m) := by
  obtain ⟨h1, h2⟩ := lowV_back hn m
  generalize hg : gV n m = g at *
  generalize hk : n / g = k at *
  generalize hp : m.ov g = p at *
  rw [← h1, ← h2, V3.sm_sm, Int.mul_comm]
/-- what stands for the same has the same lowest terms -/
theorem lowV_eq {n k : Int} {v w : V3} (hn : 0 < n) (hk : 0 < k) (h : v.sm k = w.sm n) : n / gV n v = k / gV k w ∧ v.ov (gV n v) = w.ov (gV k w) := by
  obtain ⟨a1, a2⟩ := lowV_scale hk hn v
  obtain ⟨b1, b2⟩ := lowV_scale hn hk w
  rw [Int.mul_comm k n, h] at a1 a2
  rw [← a1, ← b1, ← a2, ← b2]
  exact ⟨rfl, rfl⟩
theorem lowT_eq {n k : Int} {v w : M3} (hn : 0 < n) (hk : 0 < k) (h : v.sm k = w.sm n) : n / gT n v = k / gT k w ∧ v.ov (gT n v) = w.ov (gT k w) := by
  obtain ⟨a1, a2⟩ := lowT_scale hk hn v
  obtain ⟨b1, b2⟩ := lowT_scale hn hk w
  rw [Int.mul_comm k n, h] at a1 a2
  rw [← a1, ← b1, ← a2, ← b2]
  exact ⟨rfl, rfl⟩
theorem V3.sm_inj {k : Int} (hk : 0 < k) {v w : V3} (h : v.sm k = w.sm k) : v = w := by
  have h1 := congrArg V3.x h
  have h2 := congrArg V3.y h
  have h3 := congrArg V3.z h
  exact V3.ext' (Int.eq_of_mul_eq_mul_left (by omega) h1) (Int.eq_of_mul_eq_mul_left (by omega) h2) (Int.eq_of_mul_eq_mul_left (by omega) h3)
theorem M3.sm_inj {k : Int} (hk : 0 < k) {v w : M3} (h : v.sm k = w.sm k) : v = w := by
  have h1 := congrArg M3.a h
  have h2 := congrArg M3.b h
  have h3 := congrArg M3.c h
  exact M3.ext' (V3.sm_inj hk h1) (V3.sm_inj hk h2) (V3.sm_inj hk h3)
theorem place_comp {n1 n2 g k ga a gb b : Int} {m1 m2 P : M3} {v w x : V3} (g0 : 0 < g) (ga0 : 0 < ga) (gb0 : 0 < gb) (h1 : g * k = n1 * n2) (h2 : P.sm g = m2.mul m1) (h3 : ga * a = n1) (h4 : w.sm ga = m1.app v) (h5 : gb * b = n2) (h6 : x.sm gb = m2.app w) :
    (P.app v).sm (b * a) = x.sm k := by
  apply V3.sm_inj (Int.mul_pos g0 (Int.mul_pos ga0 gb0))
  have l : ((P.app v).sm (b * a)).sm (g * (ga * gb)) = (m2.app (m1.app v)).sm (n1 * n2) := by
    have e : g * (ga * gb) * (b * a) = n1 * n2 * g := by rw [← h3, ← h5]; grind
    rw [V3.sm_sm, e, ← V3.sm_sm, ← M3.sm_app, h2, M3.app_mul]
  have r : (x.sm k).sm (g * (ga * gb)) = (m2.app (m1.app v)).sm (n1 * n2) := by
    have e : g * (ga * gb) * k = n1 * n2 * ga * gb := by rw [← h1]; grind
    rw [V3.sm_sm, e, ← V3.sm_sm, h6, ← V3.sm_sm, ← M3.app_sm, h4]
  rw [l, r]
theorem assoc_comp {n1 n2 n3 g k g' k' : Int} {m1 m2 m3 P P' : M3} (g0 : 0 < g) (g1 : 0 < g') (h1 : g * k = n1 * n2) (h2 : P.sm g = m2.mul m1) (h3 : g' * k' = n2 * n3) (h4 : P'.sm g' = m3.mul m2) :
    (m3.mul P).sm (n1 * k') = (P'.mul m1).sm (k * n3) := by
  apply M3.sm_inj (Int.mul_pos g0 g1)
  have l : ((m3.mul P).sm (n1 * k')).sm (g * g') = (m3.mul (m2.mul m1)).sm (n1 * (n2 * n3)) := by
    have e : g * g' * (n1 * k') = n1 * (n2 * n3) * g := by rw [← h3]; grind
    rw [M3.sm_sm, e, ← M3.sm_sm, ← M3.mul_sm, h2]
  have r : ((P'.mul m1).sm (k * n3)).sm (g * g') = (m3.mul (m2.mul m1)).sm (n1 * (n2 * n3)) := by
    have e : g * g' * (k * n3) = n1 * (n2 * n3) * g' := by
      have : g * g' * (k * n3) = (g * k) * n3 * g' := by grind
      rw [this, h1]
      grind
    rw [M3.sm_sm, e, ← M3.sm_sm, ← M3.sm_mul, h4, M3.mul_assoc]
  rw [l, r]
/-! as data -/
theorem flat_tp (v : V3) : D.flat v.tp = true := by simp only [V3.tp, D.flat, D.flats, Bool.and_self]
theorem flat_mtp (m : M3) : D.flat m.tp = true := by simp only [M3.tp, flat_tup, flats_c, flats_n, flat_tp, Bool.and_self]
theorem sh_tp (n : Nat) (v : V3) : D.sh (n + 1) v.tp = true := by simp only [V3.tp, sh_tup, shs_cons, shs_nil, sh_int, Bool.and_self]
theorem sh_mtp (n : Nat) (m : M3) : D.sh (n + 2) m.tp = true := by simp only [M3.tp, sh_tup, shs_cons, shs_nil, sh_tp, Bool.and_self]
theorem eqv_tp (v w : V3) : D.eqv v.tp w.tp = decide (v = w) := by
  have e : (v = w) = (v.x = w.x ∧ v.y = w.y ∧ v.z = w.z) := propext ⟨fun h => by subst h; exact ⟨rfl, rfl, rfl⟩, fun h => V3.ext' h.1 h.2.1 h.2.2⟩
  simp only [V3.tp, eqv_tup, eqvs_cons, eqvs_nil, eqv_int, Bool.and_true, e, Bool.decide_and]
theorem eqv_mtp (v w : M3) : D.eqv v.tp w.tp = decide (v = w) := by
  have e : (v = w) = (v.a = w.a ∧ v.b = w.b ∧ v.c = w.c) := propext ⟨fun h => by subst h; exact ⟨rfl, rfl, rfl⟩, fun h => M3.ext' h.1 h.2.1 h.2.2⟩
  simp only [M3.tp, eqv_tup, eqvs_cons, eqvs_nil, eqv_tp, Bool.and_true, e, Bool.decide_and]
theorem mk_tp (a b c : Int) : D.tup [.int a, .int b, .int c] = V3.tp ⟨a, b, c⟩ := rfl
theorem mk_mtp (a b c : V3) : D.tup [a.tp, b.tp, c.tp] = M3.tp ⟨a, b, c⟩ := rfl
theorem seqD_tp (q : V3) : seqD q.tp = some (.ok [.int q.x, .int q.y, .int q.z] true) := rfl
theorem seqD_mtp (q : M3) : seqD q.tp = some (.ok [q.a.tp, q.b.tp, q.c.tp] true) := rfl
theorem len_tp (q : V3) : lenC [q.tp] = some (.v (.int 3)) := rfl
theorem len_mtp (q : M3) : lenC [q.tp] = some (.v (.int 3)) := rfl
theorem isTup_tp (q : V3) : isTupD q.tp = some true := rfl
theorem isTup_mtp (q : M3) : isTupD q.tp = some true := rfl
theorem ix_tp (q : V3) (i : Int) : ixD q.tp (.int i) = (atI [D.int q.x, .int q.y, .int q.z] i).map .v := rfl
theorem ix_mtp (q : M3) (i : Int) : ixD q.tp (.int i) = (atI [q.a.tp, q.b.tp, q.c.tp] i).map .v := rfl
theorem list_tp (q : V3) : listC [q.tp] = some (.n (.lst [.int q.x, .int q.y, .int q.z])) := rfl
theorem tuple_tp (q : V3) : tupleC [q.tp] = some (.v q.tp) := rfl
theorem tgTp (is : List Nat) (q : V3) (env : En) : (Tg.tu is).set q.tp env = setAll is [.int q.x, .int q.y, .int q.z] env := rfl
theorem seqD_ls (q : V3) : seqD q.ls = some (.ok [.int q.x, .int q.y, .int q.z] true) := rfl
theorem seqD_mls (q : M3) : seqD q.ls = some (.ok [q.a.ls, q.b.ls, q.c.ls] true) := rfl
theorem ix_ls (q : V3) (i : Int) : ixD q.ls (.int i) = (atI [D.int q.x, .int q.y, .int q.z] i).map .v := rfl
theorem ix_mls (q : M3) (i : Int) : ixD q.ls (.int i) = (atI [q.a.ls, q.b.ls, q.c.ls] i).map .v := rfl
theorem sum_ls (v : V3) : sumC [v.ls] = some (.v (.int (v.x + v.y + v.z))) := by
  show some (Vn.v (D.int [v.x, v.y, v.z].sum)) = _
  rw [List.sum_cons, List.sum_cons, List.sum_cons, List.sum_nil, Int.add_zero, Int.add_assoc]
theorem tuple_ls (q : V3) : tupleC [q.ls] = some (.v q.tp) := rfl
theorem mk_ls (a b c : Int) : D.lst [.int a, .int b, .int c] = V3.ls ⟨a, b, c⟩ := rfl
theorem mk_mls (a b c : V3) : D.lst [a.ls, b.ls, c.ls] = M3.ls ⟨a, b, c⟩ := rfl
theorem flat_ls (v : V3) : D.flat v.ls = false := by simp only [V3.ls, D.flat]
theorem flat_mls (m : M3) : D.flat m.ls = false := by simp only [M3.ls, D.flat]
theorem eqD_tab (n k : Int) (m p : M3) : eqD (tab n m) (tab k p) = some (.v (.bl (decide (n = k) && decide (m = p)))) := by
  unfold tab
  rw [eqD_tt]
  simp only [shs_cons, shs_nil, sh_int, sh_mtp, Bool.and_self, if_true, eqvs_cons, eqvs_nil, eqv_int, eqv_mtp, Bool.and_true]
theorem neD_tab (n k : Int) (m p : M3) : neD (tab n m) (tab k p) = some (.v (.bl (!(decide (n = k) && decide (m = p))))) := by
  unfold tab
  rw [neD_tt]
  simp only [shs_cons, shs_nil, sh_int, sh_mtp, Bool.and_self, if_true, eqvs_cons, eqvs_nil, eqv_int, eqv_mtp, Bool.and_true]
end HD

set_option Elab.async false
set_option linter.all false
set_option maxRecDepth 100000
/-! Tn: numbers of turns as told, their tables -/
namespace HD
open PySem L2
theorem fdivD_ex {x j : Int} {n : Nat} [b : SzC j n] (h0 : j ≠ 0) (hd : j ∣ x) (h : n ≤ 8999) : fdivD (.int x) (.int j) = some (.v (.int (x / j))) := by
  have h3 := log2_le_of (x := j)
  show (if decide (j ≠ 0 ∧ j.natAbs.log2 < 9000) = true then _ else _) = _
  rw [if_pos (decide_eq_true ⟨h0, by omega⟩), Int.fdiv_eq_ediv_of_dvd hd]
def Q.l (q : Q) : List Int := [q.a, q.b, q.c, q.d]
def gQ (q : Q) : Int := gcdL q.l
def fstQ (q : Q) : Int := if q.a ≠ 0 then q.a else if q.b ≠ 0 then q.b else if q.c ≠ 0 then q.c else q.d
def byQ (q : Q) : Int := if fstQ q < 0 then 0 - gQ q else gQ q
def toldQ (q : Q) : Q := q.ov (byQ q)
theorem fst_ne {q : Q} (h : ¬ q = ⟨0, 0, 0, 0⟩) : fstQ q ≠ 0 := by
  unfold fstQ
  split
  · assumption
  · split
    · assumption
    · split
      · assumption
      · intro hd
        apply h
        apply Q.ext' <;> simp only <;> omega
theorem fst_mem (q : Q) : fstQ q ∈ q.l := by
  unfold fstQ Q.l
  split
  · simp
  · split
    · simp
    · split <;> simp
theorem gQ_pos {q : Q} (h : ¬ q = ⟨0, 0, 0, 0⟩) : 0 < gQ q := gcdL_pos (fst_mem q) (fst_ne h)
theorem by_ne {q : Q} (h : ¬ q = ⟨0, 0, 0, 0⟩) : byQ q ≠ 0 := by
  have := gQ_pos h
  unfold byQ
  split <;> omega
theorem by_dvd (q : Q) {x : Int} (h : x ∈ q.l) : byQ q ∣ x := by
  have h1 := gcdL_dvd h
  unfold byQ gQ
  split
  · rw [Int.zero_sub]
    exact Int.neg_dvd.2 h1
  · exact h1
theorem told_back (q : Q) : (toldQ q).smul (byQ q) = q := by
  have e : ∀ x ∈ q.l, byQ q * (x / byQ q) = x := fun x h => Int.mul_ediv_cancel' (by_dvd q h)
  unfold toldQ Q.ov Q.smul
  exact Q.ext' (e _ (by simp [Q.l])) (e _ (by simp [Q.l])) (e _ (by simp [Q.l])) (e _ (by simp [Q.l]))
theorem told_ne {q : Q} (h : ¬ q = ⟨0, 0, 0, 0⟩) : ¬ toldQ q = ⟨0, 0, 0, 0⟩ := fun e => h (by
  rw [← told_back q, e]
  apply Q.ext' <;> simp only [Q.smul, Int.mul_zero])
theorem smul_ne {k : Int} (hk : k ≠ 0) {q : Q} (h : ¬ q = ⟨0, 0, 0, 0⟩) : ¬ q.smul k = ⟨0, 0, 0, 0⟩ := fun e => h (smul_inj hk (e.trans (by apply Q.ext' <;> simp only [Q.smul, Int.mul_zero])))
theorem fst_smul {k : Int} (hk : k ≠ 0) (q : Q) : fstQ (q.smul k) = k * fstQ q := by
  have e : ∀ x : Int, k * x ≠ 0 ↔ x ≠ 0 := fun x => by
    constructor
    · intro h e
      exact h (by rw [e, Int.mul_zero])
    · intro h e
      rcases Int.mul_eq_zero.1 e with h1 | h1
      · exact hk h1
      · exact h h1
  unfold fstQ Q.smul
  simp only [e]
  split
  · rfl
  · split
    · rfl
    · split <;> rfl
theorem gQ_smul {k : Int} (q : Q) : gQ (q.smul k) = (k.natAbs : Int) * gQ q := by
  have h := gcdL_scale k.natAbs q.l
  have e : gcdL (q.l.map fun x => (k.natAbs : Int) * x) = gQ (q.smul k) := by
    unfold gQ gcdL gcdN Q.l Q.smul
    simp only [List.map_cons, List.map_nil, List.foldl_cons, List.foldl_nil, Int.natAbs_mul, Int.natAbs_natCast]
  rw [← e, h]
  rfl
theorem by_smul {k : Int} (hk : k ≠ 0) {q : Q} (h : ¬ q = ⟨0, 0, 0, 0⟩) : byQ (q.smul k) = k * byQ q := by
  have h1 := fst_ne h
  unfold byQ
  rw [fst_smul hk, gQ_smul]
  rcases Int.lt_or_gt_of_ne hk with hk1 | hk1
  · have e1 : (k.natAbs : Int) = -k := by omega
    rw [e1]
    by_cases hf : fstQ q < 0
    · have : 0 < k * fstQ q := Int.mul_pos_of_neg_of_neg hk1 hf
      rw [if_neg (by omega), if_pos hf]
      grind
    · have : k * fstQ q < 0 := Int.mul_neg_of_neg_of_pos hk1 (by omega)
      rw [if_pos this, if_neg hf]
      grind
  · have e1 : (k.natAbs : Int) = k := by omega
    rw [e1]
    by_cases hf : fstQ q < 0
    · have : k * fstQ q < 0 := Int.mul_neg_of_pos_of_neg hk1 hf
      rw [if_pos this, if_pos hf]
      grind
    · have : 0 < k * fstQ q := Int.mul_pos hk1 (by omega)
      rw [if_neg (by omega), if_neg hf]
theorem smul_smul (a b : Int) (q : Q) : (q.smul a).smul b = q.smul (b * a) := by
  apply Q.ext' <;> simp only [Q.smul] <;> grind
theorem told_smul {k : Int} (hk : k ≠ 0) {q : Q} (h : ¬ q = ⟨0, 0, 0, 0⟩) : toldQ (q.smul k) = toldQ q := by
  have h1 := told_back (q.smul k)
  rw [by_smul hk h] at h1
  have h2 : (toldQ q).smul (k * byQ q) = q.smul k := by
    rw [← smul_smul, told_back]
  exact smul_inj (fun e => by
    rcases Int.mul_eq_zero.1 e with e | e
    · exact hk e
    · exact by_ne h e) (h1.trans h2.symm)
theorem told_told {q : Q} (h : ¬ q = ⟨0, 0, 0, 0⟩) : toldQ (toldQ q) = toldQ q := by
  have := told_smul (by_ne h) (told_ne h)
  rw [told_back] at this
  exact this.symm
/-- multiples of one another are told alike -/
theorem told_eq {p q : Q} {k m : Int} (hp : ¬ p = ⟨0, 0, 0, 0⟩) (hq : ¬ q = ⟨0, 0, 0, 0⟩) (hk : k ≠ 0) (hm : m ≠ 0) (h : p.smul k = q.smul m) : toldQ p = toldQ q := by
  rw [← told_smul hk hp, h, told_smul hm hq]
theorem mul_smul (k : Int) (p q : Q) : p.mul (q.smul k) = (p.mul q).smul k := by
  apply Q.ext' <;> simp only [Q.mul, Q.smul] <;> grind
theorem smul_mul (k : Int) (p q : Q) : (p.smul k).mul q = (p.mul q).smul k := by
  apply Q.ext' <;> simp only [Q.mul, Q.smul] <;> grind
theorem bar_smul (k : Int) (p : Q) : (p.smul k).bar = p.bar.smul k := by
  apply Q.ext' <;> simp only [Q.bar, Q.smul] <;> grind
theorem mul_ne {p q : Q} (hp : ¬ p = ⟨0, 0, 0, 0⟩) (hq : ¬ q = ⟨0, 0, 0, 0⟩) : ¬ p.mul q = ⟨0, 0, 0, 0⟩ := fun e => by
  have h := Q.mul_sq p q
  rw [e] at h
  have h0 : Q.sq ⟨0, 0, 0, 0⟩ = 0 := by decide
  rw [h0] at h
  rcases Int.mul_eq_zero.1 h.symm with h | h
  · exact hp (Q.sq_zero (by omega))
  · exact hq (Q.sq_zero (by omega))
theorem bar_ne' {q : Q} (h : ¬ q = ⟨0, 0, 0, 0⟩) : ¬ q.bar = ⟨0, 0, 0, 0⟩ := bar_ne h
theorem sq_pos {q : Q} (h : ¬ q = ⟨0, 0, 0, 0⟩) : 0 < q.sq := by
  have h1 := q.sq_nonneg
  have h2 : q.sq ≠ 0 := fun e => h (Q.sq_zero (by omega))
  omega
theorem told_mul {p q : Q} (hp : ¬ p = ⟨0, 0, 0, 0⟩) (hq : ¬ q = ⟨0, 0, 0, 0⟩) : toldQ ((toldQ p).mul (toldQ q)) = toldQ (p.mul q) := by
  refine (told_smul (k := byQ p * byQ q) (fun e => ?_) (mul_ne (told_ne hp) (told_ne hq))).symm.trans ?_
  · rcases Int.mul_eq_zero.1 e with e | e
    · exact by_ne hp e
    · exact by_ne hq e
  · rw [← smul_smul, ← mul_smul, ← smul_mul, told_back, told_back]
theorem told_bar {q : Q} (h : ¬ q = ⟨0, 0, 0, 0⟩) : toldQ (toldQ q).bar = toldQ q.bar := by
  refine (told_smul (k := byQ q) (by_ne h) (bar_ne' (told_ne h))).symm.trans ?_
  rw [← bar_smul, told_back]
instance told_qc {q : Q} {n : Nat} [h : QC q n] : QC (toldQ q) n := by
  have e : ∀ x : Int, SzC x n → SzC (x / byQ q) n := fun x hx => ⟨Nat.lt_of_le_of_lt (Int.natAbs_ediv_le_natAbs x _) hx.lt⟩
  exact ⟨e _ h.a, e _ h.b, e _ h.c, e _ h.d⟩
theorem by_sz {q : Q} {n : Nat} (h : ¬ q = ⟨0, 0, 0, 0⟩) [hq : QC q n] : SzC (byQ q) n := by
  have h1 : byQ q ∣ fstQ q := by_dvd q (fst_mem q)
  have h2 := fst_ne h
  have h3 : (byQ q).natAbs ≤ (fstQ q).natAbs := Nat.le_of_dvd (by omega) (Int.natAbs_dvd_natAbs.2 h1)
  have h4 : SzC (fstQ q) n := by
    unfold fstQ
    split
    · exact hq.a
    · split
      · exact hq.b
      · split
        · exact hq.c
        · exact hq.d
  exact ⟨Nat.lt_of_le_of_lt h3 h4.lt⟩
/-! ### the table of a turn -/
def rotM (q : Q) : M3 := ⟨⟨q.a * q.a + q.b * q.b - q.c * q.c - q.d * q.d, 2 * q.b * q.c - 2 * q.a * q.d, 2 * q.b * q.d + 2 * q.a * q.c⟩,
  ⟨2 * q.b * q.c + 2 * q.a * q.d, q.a * q.a - q.b * q.b + q.c * q.c - q.d * q.d, 2 * q.c * q.d - 2 * q.a * q.b⟩,
  ⟨2 * q.b * q.d - 2 * q.a * q.c, 2 * q.c * q.d + 2 * q.a * q.b, q.a * q.a - q.b * q.b - q.c * q.c + q.d * q.d⟩⟩
instance rot_mc {q : Q} {n : Nat} [h : QC q n] : MC (rotM q) (n + n + 10) := by
  have two : SzC (2 : Int) 2 := ⟨by decide⟩
  unfold rotM
  have e1 : ∀ x y : Int, SzC x n → SzC y n → SzC (x * y) (n + n) := fun x y hx hy => inferInstance
  have e2 : ∀ x y : Int, SzC x n → SzC y n → SzC (2 * x * y) (n + n + 2) := fun x y hx hy => SzC.mono (inferInstance : SzC (2 * x * y) (2 + n + n)) (by omega)
  have ad : ∀ (x y : Int) (a b : Nat), SzC x a → SzC y b → SzC (x + y) (max a b + 1) := fun x y a b hx hy => inferInstance
  have sb : ∀ (x y : Int) (a b : Nat), SzC x a → SzC y b → SzC (x - y) (max a b + 1) := fun x y a b hx hy => inferInstance
  have A := e1 _ _ h.a h.a
  have B := e1 _ _ h.b h.b
  have C := e1 _ _ h.c h.c
  have D := e1 _ _ h.d h.d
  exact ⟨⟨(sb _ _ _ _ (sb _ _ _ _ (ad _ _ _ _ A B) C) D).mono (by omega), (sb _ _ _ _ (e2 _ _ h.b h.c) (e2 _ _ h.a h.d)).mono (by omega), (ad _ _ _ _ (e2 _ _ h.b h.d) (e2 _ _ h.a h.c)).mono (by omega)⟩,
    ⟨(ad _ _ _ _ (e2 _ _ h.b h.c) (e2 _ _ h.a h.d)).mono (by omega), (sb _ _ _ _ (ad _ _ _ _ (sb _ _ _ _ A B) C) D).mono (by omega), (sb _ _ _ _ (e2 _ _ h.c h.d) (e2 _ _ h.a h.b)).mono (by omega)⟩,
    ⟨(sb _ _ _ _ (e2 _ _ h.b h.d) (e2 _ _ h.a h.c)).mono (by omega), (ad _ _ _ _ (e2 _ _ h.c h.d) (e2 _ _ h.a h.b)).mono (by omega), (ad _ _ _ _ (sb _ _ _ _ (sb _ _ _ _ A B) C) D).mono (by omega)⟩⟩
theorem rot_smul (k : Int) (q : Q) : rotM (q.smul k) = (rotM q).sm (k * k) := by
  apply M3.ext' <;> apply V3.ext' <;> simp only [rotM, Q.smul, M3.sm, V3.sm] <;> grind
theorem rot_mul (p q : Q) : rotM (p.mul q) = (rotM p).mul (rotM q) := by
  apply M3.ext' <;> apply V3.ext' <;> simp only [rotM, Q.mul, M3.mul, M3.app, M3.col, V3.dot] <;> grind
theorem rot_num (n : Int) : rotM ⟨n, 0, 0, 0⟩ = M3.one.sm (n * n) := by
  apply M3.ext' <;> apply V3.ext' <;> simp only [rotM, M3.sm, V3.sm, M3.one] <;> grind
def lowT (n : Int) (m : M3) : D := tab (n / gT n m) (m.ov (gT n m))
def lowV (n : Int) (v : V3) : D := .tup [.int (n / gV n v), (v.ov (gV n v)).tp]
/-- the table -/
def tabQ (q : Q) : D := lowT q.sq (rotM q)
theorem lowT_scl {k n : Int} (hk : 0 < k) (hn : 0 < n) (m : M3) : lowT (k * n) (m.sm k) = lowT n m := by
  unfold lowT
  obtain ⟨h1, h2⟩ := lowT_scale hk hn m
  rw [h1, h2]
theorem lowV_scl {k n : Int} (hk : 0 < k) (hn : 0 < n) (m : V3) : lowV (k * n) (m.sm k) = lowV n m := by
  unfold lowV
  obtain ⟨h1, h2⟩ := lowV_scale hk hn m
  rw [h1, h2]
theorem kk_pos {k : Int} (hk : k ≠ 0) : 0 < k * k := by
  have := sq_nn k
  have h2 : k * k ≠ 0 := fun e => by rcases Int.mul_eq_zero.1 e with h | h <;> exact hk h
  omega
theorem tab_smul {k : Int} (hk : k ≠ 0) {q : Q} (h : ¬ q = ⟨0, 0, 0, 0⟩) : tabQ (q.smul k) = tabQ q := by
  unfold tabQ
  rw [smul_sq, rot_smul, lowT_scl (kk_pos hk) (sq_pos h)]
theorem tab_told {q : Q} (h : ¬ q = ⟨0, 0, 0, 0⟩) : tabQ (toldQ q) = tabQ q := by
  have := tab_smul (by_ne h) (told_ne h)
  rw [told_back] at this
  exact this.symm
/-- a spot's place by a turn -/
def plQ (q : Q) (v : V3) : D := lowV q.sq ((rotM q).app v)
theorem pl_smul {k : Int} (hk : k ≠ 0) {q : Q} (h : ¬ q = ⟨0, 0, 0, 0⟩) (v : V3) : plQ (q.smul k) v = plQ q v := by
  unfold plQ
  rw [smul_sq, rot_smul, M3.sm_app, lowV_scl (kk_pos hk) (sq_pos h)]
theorem lowV_low {n : Int} (hn : 0 < n) (m : M3) (v : V3) : lowV (n / gT n m) ((m.ov (gT n m)).app v) = lowV n (m.app v) := by
  obtain ⟨h1, h2⟩ := lowT_back hn m
  have h := lowV_scl (gT_pos m hn) (lowT_pos hn m) ((m.ov (gT n m)).app v)
  rw [h1, ← M3.sm_app, h2] at h
  exact h.symm
theorem lowV_one (v : V3) : lowV 1 v = .tup [.int 1, v.tp] := by
  have e : gV 1 v = 1 := by
    have h1 := gV_pos (n := 1) v (by decide)
    have h2 := gcdL_le (l := 1 :: v.l) (x := 1) (List.mem_cons_self ..) (by decide)
    unfold gV at *
    omega
  unfold lowV V3.ov
  rw [e]
  simp only [Int.ediv_one]
/-! as data -/
theorem eq_tabQ (q : Q) : eqD (tabQ q) (tabQ q) = some (.v (.bl true)) := (eqD_tab _ _ _ _).trans (by rw [decide_eq_true rfl, decide_eq_true rfl]; rfl)
theorem ne_tabQ (q : Q) : neD (tabQ q) (tabQ q) = some (.v (.bl false)) := (neD_tab _ _ _ _).trans (by rw [decide_eq_true rfl, decide_eq_true rfl]; rfl)
theorem flat_tab (n : Int) (m : M3) : D.flat (tab n m) = true := by simp only [tab, flat_tup, flats_c, flats_n, flat_int, flat_mtp, Bool.and_self]
theorem flat_tabQ (q : Q) : D.flat (tabQ q) = true := flat_tab _ _
theorem flat_lowV (n : Int) (v : V3) : D.flat (lowV n v) = true := by simp only [lowV, flat_tup, flats_c, flats_n, flat_int, flat_tp, Bool.and_self]
theorem flat_plQ (q : Q) (v : V3) : D.flat (plQ q v) = true := flat_lowV _ _
theorem isNot_bb (a b : Bool) : isNotD (.bl a) (.bl b) = some (.v (.bl (!(a == b)))) := by cases a <;> cases b <;> rfl
theorem is_bb (a b : Bool) : isD (.bl a) (.bl b) = some (.v (.bl (a == b))) := by cases a <;> cases b <;> rfl
end HD

set_option Elab.async false
set_option linter.all false
set_option maxRecDepth 100000
/-! Co: corner numbers, spots that stay whole -/
namespace HD
open PySem L2
theorem dvd_gcdN {d : Nat} : ∀ (l : List Int) (g : Nat), d ∣ g → (∀ x ∈ l, d ∣ x.natAbs) → d ∣ gcdN l g
  | [], g, h, _ => h
  | x :: l, g, h, hl => dvd_gcdN l _ (Nat.dvd_gcd h (hl x (List.mem_cons_self ..))) fun y hy => hl y (List.mem_cons_of_mem _ hy)
theorem dvd_gcdL {d : Int} {l : List Int} (h : ∀ x ∈ l, d ∣ x) : d ∣ gcdL l := by
  have := dvd_gcdN (d := d.natAbs) l 0 (Nat.dvd_zero _) fun x hx => Int.natAbs_dvd_natAbs.2 (h x hx)
  exact Int.natAbs_dvd_natAbs.1 this
theorem gQ_told {q : Q} (h : ¬ q = ⟨0, 0, 0, 0⟩) : gQ (toldQ q) = 1 := by
  have h1 := gQ_smul (k := byQ q) (toldQ q)
  rw [told_back] at h1
  have h2 : ((byQ q).natAbs : Int) = gQ q := by
    have := gQ_pos h
    unfold byQ
    split <;> omega
  rw [h2] at h1
  have h3 : gQ q * 1 = gQ q * gQ (toldQ q) := by omega
  exact (Int.eq_of_mul_eq_mul_left (by have := gQ_pos h; omega) h3).symm
theorem dvd_scaled {q : Q} (h : gQ q = 1) {g k : Int} (hg : ∀ x ∈ q.l, g ∣ k * x) : g ∣ k := by
  have h1 : g ∣ gQ (q.smul k) := dvd_gcdL fun x hx => by
    have : x ∈ q.l.map (fun x => k * x) := hx
    obtain ⟨y, hy, rfl⟩ := List.mem_map.1 this
    exact hg y hy
  rw [gQ_smul, h] at h1
  exact Int.dvd_natAbs.1 (by simpa using h1)
/-- the corner number -/
def crQ (q : Q) : Int := q.sq / gT q.sq (rotM q)
theorem sq_even {a : Int} (h : a % 2 = 0) : a * a % 4 = 0 := by
  obtain ⟨k, rfl⟩ : ∃ k, a = 2 * k := ⟨a / 2, by omega⟩
  have : 2 * k * (2 * k) = 4 * (k * k) := by grind
  omega
theorem sq_odd8 {a : Int} (h : a % 2 = 1) : a * a % 8 = 1 := by
  obtain ⟨k, rfl⟩ : ∃ k, a = 2 * k + 1 := ⟨a / 2, by omega⟩
  have e : (2 * k + 1) * (2 * k + 1) = 4 * (k * (k + 1)) + 1 := by grind
  have e2 : k * (k + 1) % 2 = 0 := by
    rcases (show k % 2 = 0 ∨ k % 2 = 1 by omega) with hk | hk
    · rw [Int.mul_emod, hk, Int.zero_mul]; rfl
    · have : (k + 1) % 2 = 0 := by omega
      rw [Int.mul_emod, this, Int.mul_zero]; rfl
  omega
theorem mul_odd {a b : Int} (h : a % 2 = 1) (h2 : b % 2 = 1) : a * b % 2 = 1 := by
  rw [Int.mul_emod, h, h2]
  rfl
theorem gT_dvd4 {q : Q} (h : gQ q = 1) : gT q.sq (rotM q) ∣ 4 := by
  generalize hg : gT q.sq (rotM q) = g
  have hm : ∀ x ∈ q.sq :: (rotM q).l, g ∣ x := fun x hx => hg ▸ gcdL_dvd hx
  have n0 : g ∣ q.sq := hm _ (by simp)
  have m11 := hm (rotM q).a.x (by simp [M3.l])
  have m12 := hm (rotM q).a.y (by simp [M3.l])
  have m13 := hm (rotM q).a.z (by simp [M3.l])
  have m21 := hm (rotM q).b.x (by simp [M3.l])
  have m22 := hm (rotM q).b.y (by simp [M3.l])
  have m23 := hm (rotM q).b.z (by simp [M3.l])
  have m31 := hm (rotM q).c.x (by simp [M3.l])
  have m32 := hm (rotM q).c.y (by simp [M3.l])
  have m33 := hm (rotM q).c.z (by simp [M3.l])
  have aa : g ∣ 4 * q.a * q.a := by
    have := Int.dvd_add (Int.dvd_add n0 m11) (Int.dvd_add m22 m33)
    have e : q.sq + (rotM q).a.x + ((rotM q).b.y + (rotM q).c.z) = 4 * q.a * q.a := by simp only [Q.sq, rotM]; grind
    rwa [e] at this
  have bb : g ∣ 4 * q.b * q.b := by
    have := Int.dvd_sub (Int.dvd_add n0 m11) (Int.dvd_add m22 m33)
    have e : q.sq + (rotM q).a.x - ((rotM q).b.y + (rotM q).c.z) = 4 * q.b * q.b := by simp only [Q.sq, rotM]; grind
    rwa [e] at this
  have cc : g ∣ 4 * q.c * q.c := by
    have := Int.dvd_sub (Int.dvd_add n0 m22) (Int.dvd_add m11 m33)
    have e : q.sq + (rotM q).b.y - ((rotM q).a.x + (rotM q).c.z) = 4 * q.c * q.c := by simp only [Q.sq, rotM]; grind
    rwa [e] at this
  have dd : g ∣ 4 * q.d * q.d := by
    have := Int.dvd_sub (Int.dvd_add n0 m33) (Int.dvd_add m11 m22)
    have e : q.sq + (rotM q).c.z - ((rotM q).a.x + (rotM q).b.y) = 4 * q.d * q.d := by simp only [Q.sq, rotM]; grind
    rwa [e] at this
  have bc : g ∣ 4 * q.b * q.c := by
    have := Int.dvd_add m12 m21
    have e : (rotM q).a.y + (rotM q).b.x = 4 * q.b * q.c := by simp only [rotM]; grind
    rwa [e] at this
  have ad : g ∣ 4 * q.a * q.d := by
    have := Int.dvd_sub m21 m12
    have e : (rotM q).b.x - (rotM q).a.y = 4 * q.a * q.d := by simp only [rotM]; grind
    rwa [e] at this
  have bd : g ∣ 4 * q.b * q.d := by
    have := Int.dvd_add m13 m31
    have e : (rotM q).a.z + (rotM q).c.x = 4 * q.b * q.d := by simp only [rotM]; grind
    rwa [e] at this
  have ac : g ∣ 4 * q.a * q.c := by
    have := Int.dvd_sub m13 m31
    have e : (rotM q).a.z - (rotM q).c.x = 4 * q.a * q.c := by simp only [rotM]; grind
    rwa [e] at this
  have cd : g ∣ 4 * q.c * q.d := by
    have := Int.dvd_add m23 m32
    have e : (rotM q).b.z + (rotM q).c.y = 4 * q.c * q.d := by simp only [rotM]; grind
    rwa [e] at this
  have ab : g ∣ 4 * q.a * q.b := by
    have := Int.dvd_sub m32 m23
    have e : (rotM q).c.y - (rotM q).b.z = 4 * q.a * q.b := by simp only [rotM]; grind
    rwa [e] at this
  have sw : ∀ x y : Int, g ∣ 4 * x * y → g ∣ 4 * y * x := fun x y h => by
    have e : 4 * y * x = 4 * x * y := by grind
    rwa [e]
  refine dvd_scaled h fun x hx => dvd_scaled h fun y hy => ?_
  simp only [Q.l, List.mem_cons, List.not_mem_nil, or_false] at hx hy
  rcases hx with rfl | rfl | rfl | rfl <;> rcases hy with rfl | rfl | rfl | rfl
  · exact aa
  · exact ab
  · exact ac
  · exact ad
  · exact sw _ _ ab
  · exact bb
  · exact bc
  · exact bd
  · exact sw _ _ ac
  · exact sw _ _ bc
  · exact cc
  · exact cd
  · exact sw _ _ ad
  · exact sw _ _ bd
  · exact sw _ _ cd
  · exact dd
theorem dvd_gT {d n : Int} {m : M3} (h0 : d ∣ n) (h1 : d ∣ m.a.x) (h2 : d ∣ m.a.y) (h3 : d ∣ m.a.z) (h4 : d ∣ m.b.x) (h5 : d ∣ m.b.y) (h6 : d ∣ m.b.z) (h7 : d ∣ m.c.x) (h8 : d ∣ m.c.y) (h9 : d ∣ m.c.z) : d ∣ gT n m := dvd_gcdL fun x hx => by
  simp only [M3.l, List.mem_cons, List.not_mem_nil, or_false] at hx
  rcases hx with rfl | rfl | rfl | rfl | rfl | rfl | rfl | rfl | rfl | rfl <;> assumption
theorem dvd4_cases {g : Int} (h : g ∣ 4) (hp : 0 < g) : g = 1 ∨ g = 2 ∨ g = 4 := by
  have := Int.le_of_dvd (by decide) h
  rcases (show g = 1 ∨ g = 2 ∨ g = 3 ∨ g = 4 by omega) with e | e | e | e
  · exact .inl e
  · exact .inr (.inl e)
  · rw [e] at h
    exact absurd h (by decide)
  · exact .inr (.inr e)
/-- the corner number is what of the squares is odd -/
theorem corner {q : Q} (h0 : ¬ q = ⟨0, 0, 0, 0⟩) (h : gQ q = 1) : ∃ g : Int, gT q.sq (rotM q) = g ∧ (g = 1 ∨ g = 2 ∨ g = 4) ∧ q.sq = g * crQ q ∧ crQ q % 2 = 1 ∧ 0 < crQ q := by
  have hp := sq_pos h0
  have g0 := gT_pos (rotM q) hp
  have h1 := dvd4_cases (gT_dvd4 h) g0
  obtain ⟨b1, b2⟩ := lowT_back hp (rotM q)
  have b3 := lowT_pos hp (rotM q)
  refine ⟨_, rfl, h1, b1.symm, ?_, b3⟩
  show q.sq / gT q.sq (rotM q) % 2 = 1
  have gn : gT q.sq (rotM q) ∣ q.sq := ⟨_, b1.symm⟩
  generalize q.sq / gT q.sq (rotM q) = c at *
  generalize hg : gT q.sq (rotM q) = g at *
  have D : ∀ d : Int, d ∣ q.sq → d ∣ q.a * q.a + q.b * q.b - q.c * q.c - q.d * q.d → d ∣ q.a * q.a - q.b * q.b + q.c * q.c - q.d * q.d → d ∣ q.a * q.a - q.b * q.b - q.c * q.c + q.d * q.d → d ∣ 2 * (q.b * q.c) - 2 * (q.a * q.d) → d ∣ 2 * (q.b * q.d) + 2 * (q.a * q.c) → d ∣ 2 * (q.b * q.c) + 2 * (q.a * q.d) → d ∣ 2 * (q.c * q.d) - 2 * (q.a * q.b) → d ∣ 2 * (q.b * q.d) - 2 * (q.a * q.c) → d ∣ 2 * (q.c * q.d) + 2 * (q.a * q.b) → d ∣ g := by
    intro d e0 e1 e2 e3 e4 e5 e6 e7 e8 e9
    rw [← hg]
    refine dvd_gT e0 e1 ?_ ?_ ?_ e2 ?_ ?_ ?_ e3 <;> simp only [rotM, Int.mul_assoc] <;> assumption
  have hs : q.sq = q.a * q.a + q.b * q.b + q.c * q.c + q.d * q.d := rfl
  have hne : ¬ (q.a % 2 = 0 ∧ q.b % 2 = 0 ∧ q.c % 2 = 0 ∧ q.d % 2 = 0) := fun ⟨e1, e2, e3, e4⟩ => by
    have : (2 : Int) ∣ gQ q := dvd_gcdL fun x hx => by
      simp only [Q.l, List.mem_cons, List.not_mem_nil, or_false] at hx
      rcases hx with rfl | rfl | rfl | rfl <;> omega
    rw [h] at this
    exact absurd this (by decide)
  by_cases hn : q.sq % 2 = 1
  · rcases h1 with rfl | rfl | rfl <;> omega
  have h2 : (2 : Int) ∣ g := by apply D <;> omega
  by_cases hall : q.a % 2 = 1 ∧ q.b % 2 = 1 ∧ q.c % 2 = 1 ∧ q.d % 2 = 1
  · obtain ⟨ha, hb, hc, hd⟩ := hall
    have Sa := sq_odd8 ha
    have Sb := sq_odd8 hb
    have Sc := sq_odd8 hc
    have Sd := sq_odd8 hd
    have o1 := mul_odd hb hc
    have o2 := mul_odd ha hd
    have o3 := mul_odd hb hd
    have o4 := mul_odd ha hc
    have o5 := mul_odd hc hd
    have o6 := mul_odd ha hb
    have : (4 : Int) ∣ g := by apply D <;> omega
    rcases h1 with rfl | rfl | rfl
    · omega
    · omega
    · omega
  · have SA : q.a % 2 = 0 ∧ q.a * q.a % 4 = 0 ∨ q.a % 2 = 1 ∧ q.a * q.a % 8 = 1 := by
      rcases (show q.a % 2 = 0 ∨ q.a % 2 = 1 by omega) with h | h
      · exact .inl ⟨h, sq_even h⟩
      · exact .inr ⟨h, sq_odd8 h⟩
    have SB : q.b % 2 = 0 ∧ q.b * q.b % 4 = 0 ∨ q.b % 2 = 1 ∧ q.b * q.b % 8 = 1 := by
      rcases (show q.b % 2 = 0 ∨ q.b % 2 = 1 by omega) with h | h
      · exact .inl ⟨h, sq_even h⟩
      · exact .inr ⟨h, sq_odd8 h⟩
    have SC : q.c % 2 = 0 ∧ q.c * q.c % 4 = 0 ∨ q.c % 2 = 1 ∧ q.c * q.c % 8 = 1 := by
      rcases (show q.c % 2 = 0 ∨ q.c % 2 = 1 by omega) with h | h
      · exact .inl ⟨h, sq_even h⟩
      · exact .inr ⟨h, sq_odd8 h⟩
    have SD : q.d % 2 = 0 ∧ q.d * q.d % 4 = 0 ∨ q.d % 2 = 1 ∧ q.d * q.d % 8 = 1 := by
      rcases (show q.d % 2 = 0 ∨ q.d % 2 = 1 by omega) with h | h
      · exact .inl ⟨h, sq_even h⟩
      · exact .inr ⟨h, sq_odd8 h⟩
    have n4 : q.sq % 4 = 2 := by
      rcases SA with ⟨ha, Sa⟩ | ⟨ha, Sa⟩ <;> rcases SB with ⟨hb, Sb⟩ | ⟨hb, Sb⟩ <;> rcases SC with ⟨hc, Sc⟩ | ⟨hc, Sc⟩ <;> rcases SD with ⟨hd, Sd⟩ | ⟨hd, Sd⟩ <;> omega
    rcases h1 with rfl | rfl | rfl
    · omega
    · omega
    · omega
theorem bar_g {q : Q} (h : gQ q = 1) : gQ q.bar = 1 := by
  have e : gQ q.bar = gQ q := by
    unfold gQ gcdL gcdN Q.l Q.bar
    simp only [List.foldl_cons, List.foldl_nil, Int.natAbs_neg]
  rw [e, h]
theorem bar_sq (q : Q) : q.bar.sq = q.sq := by
  simp only [Q.sq, Q.bar]
  grind
theorem corner_bar {q : Q} (h0 : ¬ q = ⟨0, 0, 0, 0⟩) (h : gQ q = 1) : crQ q.bar = crQ q := by
  obtain ⟨g, _, h1, h2, h3, h4⟩ := corner h0 h
  obtain ⟨g', _, h1', h2', h3', h4'⟩ := corner (bar_ne' h0) (bar_g h)
  rw [bar_sq] at h2'
  rcases h1 with rfl | rfl | rfl <;> rcases h1' with rfl | rfl | rfl <;> omega
theorem cr_smul {k : Int} (hk : k ≠ 0) {q : Q} (h : ¬ q = ⟨0, 0, 0, 0⟩) : crQ (q.smul k) = crQ q := by
  unfold crQ
  rw [smul_sq, rot_smul]
  exact (lowT_scale (kk_pos hk) (sq_pos h) (rotM q)).1
theorem cr_told {q : Q} (h : ¬ q = ⟨0, 0, 0, 0⟩) : crQ (toldQ q) = crQ q := by
  have := cr_smul (by_ne h) (told_ne h)
  rw [told_back] at this
  exact this.symm
theorem cr_pos {q : Q} (h : ¬ q = ⟨0, 0, 0, 0⟩) : 0 < crQ q := lowT_pos (sq_pos h) _
theorem cr_bar {q : Q} (h : ¬ q = ⟨0, 0, 0, 0⟩) : crQ q.bar = crQ q := by
  rw [← cr_told h, ← corner_bar (told_ne h) (gQ_told h), ← cr_told (bar_ne' (told_ne h)), told_bar h, cr_told (bar_ne' h)]
/-! ### spots that stay whole -/
def stB (q : Q) (v : V3) : Bool := decide (((rotM q).app v).x % q.sq = 0) && (decide (((rotM q).app v).y % q.sq = 0) && decide (((rotM q).app v).z % q.sq = 0))
theorem gV_one {n : Int} (hn : 0 < n) (v : V3) : n / gV n v = 1 ↔ v.x % n = 0 ∧ v.y % n = 0 ∧ v.z % n = 0 := by
  have g0 := gV_pos v hn
  obtain ⟨b1, b2⟩ := lowV_back hn v
  constructor
  · intro h
    rw [h, Int.mul_one] at b1
    have hm : ∀ x ∈ n :: v.l, n ∣ x := fun x hx => by
      have : gV n v ∣ x := gcdL_dvd hx
      rwa [b1] at this
    exact ⟨Int.emod_eq_zero_of_dvd (hm _ (by simp [V3.l])), Int.emod_eq_zero_of_dvd (hm _ (by simp [V3.l])), Int.emod_eq_zero_of_dvd (hm _ (by simp [V3.l]))⟩
  · rintro ⟨h1, h2, h3⟩
    have hd : n ∣ gV n v := dvd_gcdL fun x hx => by
      simp only [V3.l, List.mem_cons, List.not_mem_nil, or_false] at hx
      rcases hx with rfl | rfl | rfl | rfl
      · exact Int.dvd_refl _
      · exact Int.dvd_of_emod_eq_zero h1
      · exact Int.dvd_of_emod_eq_zero h2
      · exact Int.dvd_of_emod_eq_zero h3
    have h4 := Int.le_of_dvd g0 hd
    have h5 : gV n v ≤ n := gcdL_le (List.mem_cons_self ..) hn
    have e : gV n v = n := by omega
    rw [e]
    exact Int.ediv_self (by omega)
theorem st_iff {q : Q} (h : ¬ q = ⟨0, 0, 0, 0⟩) (v : V3) : decide (q.sq / gV q.sq ((rotM q).app v) = 1) = stB q v := by
  have := gV_one (sq_pos h) ((rotM q).app v)
  unfold stB
  rw [Bool.eq_iff_iff]
  simp only [decide_eq_true_eq, Bool.and_eq_true]
  exact this
theorem emod_scale {k n x : Int} (hk : 0 < k) : k * x % (k * n) = 0 ↔ x % n = 0 := by
  constructor
  · intro h
    obtain ⟨y, hy⟩ := Int.dvd_of_emod_eq_zero h
    exact Int.emod_eq_zero_of_dvd ⟨y, Int.eq_of_mul_eq_mul_left (Int.ne_of_gt hk) (by rw [hy, Int.mul_assoc])⟩
  · intro h
    obtain ⟨y, hy⟩ := Int.dvd_of_emod_eq_zero h
    exact Int.emod_eq_zero_of_dvd ⟨y, by rw [hy, Int.mul_assoc]⟩
theorem st_smul {k : Int} (hk : k ≠ 0) (q : Q) (v : V3) : stB (q.smul k) v = stB q v := by
  have hk2 := kk_pos hk
  unfold stB
  rw [smul_sq, rot_smul, M3.sm_app]
  simp only [V3.sm, emod_scale hk2]
theorem st_told {q : Q} (h : ¬ q = ⟨0, 0, 0, 0⟩) (v : V3) : stB (toldQ q) v = stB q v := by
  have := st_smul (by_ne h) (toldQ q) v
  rw [told_back] at this
  exact this.symm
end HD

set_option Elab.async false
set_option linter.all false
set_option maxRecDepth 100000
namespace HD
open PySem L2
abbrev cs_kept : List Str := ["Turn"]
noncomputable def w_divisor_of_0 : Sm := (cPar 1 2 [] (vr 2) (cOp modD (vr 1) (vr 2)))
noncomputable def w_divisor_of_1 : Sm := (cWhile [] (tBl (cOp neD (vr 2) (cC (.int 0)))) w_divisor_of_0)
noncomputable def b_divisor_of : Sm := (cSeq (cSet 1 [] (cC (.int 0)))
  (cSeq (cFor [] (iSeq (vr 0)) (.nm 2) w_divisor_of_1)
  (cRet [] (cCB absC [(vr 1)]))))
noncomputable def f_divisor_of : List D → Option Rs := runB 1 3 b_divisor_of
noncomputable def e_lowest_0 : Ev := (cOp fdivD (vr 5) (vr 3))
noncomputable def e_lowest_1 : Ev := (cCB tupleC [(cLc (iSeq (vr 4)) [5] (.nm 5) tYes' e_lowest_0)])
noncomputable def b_lowest : Sm := (cSeq (cSetT [1, 2] [] (vr 0))
  (cSeq (cSet 3 [] (cCall f_divisor_of [(cOp addD (cOp addD (cOp addD (cLst [(vr 1)]) (cCB listC [(cOp ixD (vr 2) (cC (.int 0)))])) (cCB listC [(cOp ixD (vr 2) (cC (.int 1)))])) (cCB listC [(cOp ixD (vr 2) (cC (.int 2)))]))]))
  (cRet [3] (cTup [(cOp fdivD (vr 1) (vr 3)), (cCB tupleC [(cLc (iSeq (vr 2)) [4] (.nm 4) tYes' e_lowest_1)])]))))
noncomputable def f_lowest : List D → Option Rs := runB 1 6 b_lowest
noncomputable def b_table_of : Sm := (cSeq (cSetT [1, 2, 3, 4] [] (vr 0))
  (cSeq (cSet 5 [] (cOp addD (cOp addD (cOp addD (cOp mulD (vr 1) (vr 1)) (cOp mulD (vr 2) (vr 2))) (cOp mulD (vr 3) (vr 3))) (cOp mulD (vr 4) (vr 4))))
  (cSeq (cIf [5] (tBl (cOp eqD (vr 5) (cC (.int 0))))
  cNever
  cNil)
  (cSeq (cSet 6 [] (cTup [(cOp subD (cOp subD (cOp addD (cOp mulD (vr 1) (vr 1)) (cOp mulD (vr 2) (vr 2))) (cOp mulD (vr 3) (vr 3))) (cOp mulD (vr 4) (vr 4))), (cOp subD (cOp mulD (cOp mulD (cC (.int 2)) (vr 2)) (vr 3)) (cOp mulD (cOp mulD (cC (.int 2)) (vr 1)) (vr 4))), (cOp addD (cOp mulD (cOp mulD (cC (.int 2)) (vr 2)) (vr 4)) (cOp mulD (cOp mulD (cC (.int 2)) (vr 1)) (vr 3)))]))
  (cSeq (cSet 7 [] (cTup [(cOp addD (cOp mulD (cOp mulD (cC (.int 2)) (vr 2)) (vr 3)) (cOp mulD (cOp mulD (cC (.int 2)) (vr 1)) (vr 4))), (cOp subD (cOp addD (cOp subD (cOp mulD (vr 1) (vr 1)) (cOp mulD (vr 2) (vr 2))) (cOp mulD (vr 3) (vr 3))) (cOp mulD (vr 4) (vr 4))), (cOp subD (cOp mulD (cOp mulD (cC (.int 2)) (vr 3)) (vr 4)) (cOp mulD (cOp mulD (cC (.int 2)) (vr 1)) (vr 2)))]))
  (cSeq (cSet 8 [] (cTup [(cOp subD (cOp mulD (cOp mulD (cC (.int 2)) (vr 2)) (vr 4)) (cOp mulD (cOp mulD (cC (.int 2)) (vr 1)) (vr 3))), (cOp addD (cOp mulD (cOp mulD (cC (.int 2)) (vr 3)) (vr 4)) (cOp mulD (cOp mulD (cC (.int 2)) (vr 1)) (vr 2))), (cOp addD (cOp subD (cOp subD (cOp mulD (vr 1) (vr 1)) (cOp mulD (vr 2) (vr 2))) (cOp mulD (vr 3) (vr 3))) (cOp mulD (vr 4) (vr 4)))]))
  (cRet [5] (cCall f_lowest [(cTup [(vr 5), (cTup [(vr 6), (vr 7), (vr 8)])])]))))))))
noncomputable def f_table_of : List D → Option Rs := runB 1 9 b_table_of
noncomputable def b_Turn_table : Sm := (cRet [] (cCall f_table_of [(cFld cs_kept "kept" (vr 0))]))
noncomputable def f_Turn_table : List D → Option Rs := runB 1 1 b_Turn_table
noncomputable abbrev tb_table : List (Str × (List D → Option Rs)) := [("Turn", f_Turn_table)]
noncomputable def b__law_cell : Sm := (cSeq (cSet 2 [] (cC (.int 0)))
  (cSeq (cIf [] (tBl (cOp gtD (cCB lenC [(vr 0)]) (cC (.int 0))))
  (cSet 2 [] (cOp ixD (vr 0) (cOp modD (vr 1) (cCB lenC [(vr 0)]))))
  cNil)
  (cSeq (cSet 3 [] (cOp modD (cOp mulD (cOp addD (cOp addD (cOp modD (vr 2) (cC (.int 2147483647))) (cOp mulD (cC (.int 7919)) (vr 1))) (cC (.int 1))) (cC (.int 48271))) (cC (.int 2147483647))))
  (cRet [] (cOp addD (cOp mulD (cOp fdivD (vr 2) (cC (.int 2147483647))) (cC (.int 2147483647))) (cOp modD (cOp addD (cOp mulD (vr 3) (cC (.int 69621))) (vr 1)) (cC (.int 2147483647))))))))
noncomputable def f__law_cell : List D → Option Rs := runB 2 4 b__law_cell
noncomputable def b__law_number : Sm := (cSeq (cIf [] (tBl (cOp eqD (cOp modD (vr 1) (cC (.int 3))) (cC (.int 0))))
  (cRet [] (cOp subD (cOp modD (cOp mulD (vr 0) (cOp powD (cC (.int 1000003)) (cC (.int 4)))) (cOp addD (cOp mulD (cC (.int 2)) (cOp powD (cC (.int 10)) (cC (.int 20)))) (cC (.int 1)))) (cOp powD (cC (.int 10)) (cC (.int 20)))))
  cNil)
  (cSeq (cIf [] (tBl (cOp eqD (cOp modD (vr 1) (cC (.int 3))) (cC (.int 1))))
  (cRet [] (cOp subD (cOp modD (vr 0) (cC (.int 61))) (cC (.int 30))))
  cNil)
  (cRet [] (cOp subD (cOp modD (vr 0) (cC (.int 7))) (cC (.int 3))))))
noncomputable def f__law_number : List D → Option Rs := runB 2 2 b__law_number
noncomputable def e__law_spot_0 : Ev := (cCall f__law_number [(cCall f__law_cell [(vr 0), (cOp addD (cOp addD (vr 1) (cC (.int 1))) (vr 3))]), (vr 2)])
noncomputable def b__law_spot : Sm := (cSeq (cSet 2 [] (cCall f__law_cell [(vr 0), (vr 1)]))
  (cRet [2] (cCB tupleC [(cLc (iRange1 (cC (.int 3))) [3] (.nm 3) tYes' e__law_spot_0)])))
noncomputable def f__law_spot : List D → Option Rs := runB 2 4 b__law_spot
noncomputable def w_as_told_0 : Sm := (cIf [] (tBl (cOp neD (vr 2) (cC (.int 0))))
  (cSet 3 [] (vr 2))
  cNil)
noncomputable def e_as_told_0 : Ev := (cOp fdivD (vr 2) (vr 1))
noncomputable def b_as_told : Sm := (cSeq (cSet 1 [] (cCall f_divisor_of [(vr 0)]))
  (cSeq (cIf [1] (tBl (cOp eqD (vr 1) (cC (.int 0))))
  cNever
  cNil)
  (cSeq (cFor [] (iRv (vr 0)) (.nm 2) w_as_told_0)
  (cSeq (cIf [3] (tBl (cOp ltD (vr 3) (cC (.int 0))))
  (cSet 1 [1] (cOp subD (cC (.int 0)) (vr 1)))
  cNil)
  (cRet [1] (cCB tupleC [(cLc (iSeq (vr 0)) [2] (.nm 2) tYes' e_as_told_0)]))))))
noncomputable def f_as_told : List D → Option Rs := runB 1 4 b_as_told
noncomputable def b_Turn___init__ : Ev := (cCall f_as_told [(vr 1)])
noncomputable def f_Turn___init__ : List D → Option Rs := initB 1 1 b_Turn___init__
noncomputable def b_corner_number : Sm := (cRet [] (cOp ixD (cMeth "table" tb_table (vr 0) []) (cC (.int 0))))
noncomputable def f_corner_number : List D → Option Rs := runB 1 1 b_corner_number
noncomputable def b_plain_product : Sm := (cSeq (cSetT [2, 3, 4, 5] [] (vr 0))
  (cSeq (cSetT [6, 7, 8, 9] [] (vr 1))
  (cSeq (cSet 10 [] (cOp subD (cOp subD (cOp subD (cOp mulD (vr 2) (vr 6)) (cOp mulD (vr 3) (vr 7))) (cOp mulD (vr 4) (vr 8))) (cOp mulD (vr 5) (vr 9))))
  (cSeq (cSet 11 [] (cOp subD (cOp addD (cOp addD (cOp mulD (vr 2) (vr 7)) (cOp mulD (vr 3) (vr 6))) (cOp mulD (vr 4) (vr 9))) (cOp mulD (vr 5) (vr 8))))
  (cSeq (cSet 12 [] (cOp addD (cOp addD (cOp subD (cOp mulD (vr 2) (vr 8)) (cOp mulD (vr 3) (vr 9))) (cOp mulD (vr 4) (vr 6))) (cOp mulD (vr 5) (vr 7))))
  (cSeq (cSet 13 [] (cOp addD (cOp subD (cOp addD (cOp mulD (vr 2) (vr 9)) (cOp mulD (vr 3) (vr 8))) (cOp mulD (vr 4) (vr 7))) (cOp mulD (vr 5) (vr 6))))
  (cRet [12, 13] (cTup [(vr 10), (vr 11), (vr 12), (vr 13)]))))))))
noncomputable def f_plain_product : List D → Option Rs := runB 2 14 b_plain_product
noncomputable def b_Turn_number : Sm := (cRet [] (cFld cs_kept "kept" (vr 0)))
noncomputable def f_Turn_number : List D → Option Rs := runB 1 1 b_Turn_number
noncomputable abbrev tb_number : List (Str × (List D → Option Rs)) := [("Turn", f_Turn_number)]
noncomputable def b_Turn_behind : Sm := (cRet [] (cMake "Turn" "kept" f_Turn___init__ [(cCall f_plain_product [(cFld cs_kept "kept" (vr 0)), (cMeth "number" tb_number (vr 1) [])])]))
noncomputable def f_Turn_behind : List D → Option Rs := runB 2 2 b_Turn_behind
noncomputable abbrev tb_behind : List (Str × (List D → Option Rs)) := [("Turn", f_Turn_behind)]
noncomputable def b_summed : Sm := (cRet [] (cOp addD (cOp addD (cOp mulD (cOp ixD (vr 0) (cC (.int 0))) (cOp ixD (vr 1) (cC (.int 0)))) (cOp mulD (cOp ixD (vr 0) (cC (.int 1))) (cOp ixD (vr 1) (cC (.int 1))))) (cOp mulD (cOp ixD (vr 0) (cC (.int 2))) (cOp ixD (vr 1) (cC (.int 2))))))
noncomputable def f_summed : List D → Option Rs := runB 2 2 b_summed
noncomputable def e_place_by_0 : Ev := (cCall f_summed [(vr 6), (vr 1)])
noncomputable def e_place_by_1 : Ev := (cOp fdivD (vr 7) (vr 5))
noncomputable def b_place_by : Sm := (cSeq (cSetT [2, 3] [] (vr 0))
  (cSeq (cSet 4 [] (cLc (iSeq (vr 3)) [6] (.nm 6) tYes' e_place_by_0))
  (cSeq (cSet 5 [4] (cCall f_divisor_of [(cOp addD (cLst [(vr 2)]) (vr 4))]))
  (cRet [4, 5] (cTup [(cOp fdivD (vr 2) (vr 5)), (cCB tupleC [(cLc (iSeq (vr 4)) [7] (.nm 7) tYes' e_place_by_1)])])))))
noncomputable def f_place_by : List D → Option Rs := runB 2 8 b_place_by
noncomputable def b_Deed_place : Sm := (cRet [] (cCall f_place_by [(cMeth "table" tb_table (vr 0) []), (vr 1)]))
noncomputable def f_Deed_place : List D → Option Rs := runB 2 2 b_Deed_place
noncomputable abbrev tb_place : List (Str × (List D → Option Rs)) := [("Turn", f_Deed_place)]
noncomputable def w__law_along_0 : Sm := (cSeq (cSet 4 [] (cMeth "place" tb_place (vr 3) [(vr 1)]))
  (cSeq (cSet 2 [4] (cOp mulD (vr 2) (cOp ixD (vr 4) (cC (.int 0)))))
  (cSet 1 [4] (cOp ixD (vr 4) (cC (.int 1))))))
noncomputable def b__law_along : Sm := (cSeq (cSet 2 [] (cC (.int 1)))
  (cSeq (cFor [] (iSeq (vr 0)) (.nm 3) w__law_along_0)
  (cRet [] (cTup [(vr 2), (vr 1)]))))
noncomputable def f__law_along : List D → Option Rs := runB 2 5 b__law_along
noncomputable def e__law_row_0 : Ev := (cOp subD (cOp modD (cCall f__law_cell [(vr 0), (cOp addD (vr 1) (vr 3))]) (cC (.int 61))) (cC (.int 30)))
noncomputable def b__law_row : Sm := (cSeq (cSet 2 [] (cLc (iRange1 (cC (.int 4))) [3] (.nm 3) tYes' e__law_row_0))
  (cSeq (cIf [2] (tNot' (tVal (cCB anyC [(vr 2)])))
  (cSetIx 2 [] (cC (.int 1)) (cOp modD (cOp fdivD (cCall f__law_cell [(vr 0), (vr 1)]) (cC (.int 61))) (cC (.int 4))))
  cNil)
  (cRet [2] (cCB tupleC [(vr 2)]))))
noncomputable def f__law_row : List D → Option Rs := runB 2 4 b__law_row
noncomputable def e_behind_0 : Ev := (cOp ixD (vr 5) (vr 4))
noncomputable def e_behind_1 : Ev := (cCB tupleC [(cLc (iSeq (cOp ixD (vr 0) (cC (.int 1)))) [5] (.nm 5) tYes' e_behind_0)])
noncomputable def e_behind_2 : Ev := (cCall f_summed [(vr 5), (vr 6)])
noncomputable def e_behind_3 : Ev := (cCB tupleC [(cLc (iSeq (vr 2)) [6] (.nm 6) tYes' e_behind_2)])
noncomputable def b_behind : Sm := (cSeq (cSet 2 [] (cLc (iRange1 (cC (.int 3))) [4] (.nm 4) tYes' e_behind_1))
  (cSeq (cSet 3 [2] (cCB tupleC [(cLc (iSeq (cOp ixD (vr 1) (cC (.int 1)))) [5] (.nm 5) tYes' e_behind_3)]))
  (cRet [] (cCall f_lowest [(cTup [(cOp mulD (cOp ixD (vr 0) (cC (.int 0))) (cOp ixD (vr 1) (cC (.int 0)))), (vr 3)])]))))
noncomputable def f_behind : List D → Option Rs := runB 2 7 b_behind
noncomputable def w__law_divisor_0 : Sm := (cPar 1 2 [] (vr 2) (cOp modD (vr 1) (vr 2)))
noncomputable def w__law_divisor_1 : Sm := (cWhile [] (tBl (cOp neD (vr 2) (cC (.int 0)))) w__law_divisor_0)
noncomputable def b__law_divisor : Sm := (cSeq (cSet 1 [] (cC (.int 0)))
  (cSeq (cFor [] (iSeq (vr 0)) (.nm 2) w__law_divisor_1)
  (cRet [] (cCB absC [(vr 1)]))))
noncomputable def f__law_divisor : List D → Option Rs := runB 1 3 b__law_divisor
noncomputable def e__law_told_0 : Ev := (vr 3)
noncomputable def e__law_told_1 : Ev := (cOp fdivD (vr 3) (vr 1))
noncomputable def b__law_told : Sm := (cSeq (cSet 1 [] (cCall f__law_divisor [(vr 0)]))
  (cSeq (cSet 2 [] (cOp ixD (cLc (iSeq (vr 0)) [3] (.nm 3) (tBl (cOp neD (vr 3) (cC (.int 0)))) e__law_told_0) (cC (.int 0))))
  (cSeq (cIf [] (tBl (cOp ltD (vr 2) (cC (.int 0))))
  (cSet 1 [1] (cOp subD (cC (.int 0)) (vr 1)))
  cNil)
  (cRet [1] (cCB tupleC [(cLc (iSeq (vr 0)) [3] (.nm 3) tYes' e__law_told_1)])))))
noncomputable def f__law_told : List D → Option Rs := runB 1 4 b__law_told
noncomputable def b__law_whole : Sm := (cRet [] (cAnd (cIs isIntD (vr 0)) (cNot (cIs isBoolD (vr 0)))))
noncomputable def f__law_whole : List D → Option Rs := runB 1 1 b__law_whole
noncomputable def e__law_tuple_0 : Ev := (cCall f__law_whole [(vr 2)])
noncomputable def b__law_tuple : Sm := (cRet [] (cAnd (cIs isTupD (vr 0)) (cAnd (cOp eqD (cCB lenC [(vr 0)]) (vr 1)) (cCB allC [(cLc (iSeq (vr 0)) [2] (.nm 2) tYes' e__law_tuple_0)]))))
noncomputable def f__law_tuple : List D → Option Rs := runB 2 3 b__law_tuple
noncomputable def e__law_place_0 : Ev := (cOp mulD (vr 3) (vr 1))
noncomputable def e__law_place_1 : Ev := (cOp mulD (vr 3) (cOp ixD (vr 0) (cC (.int 0))))
noncomputable def b__law_place : Sm := (cSeq (cIf [] (tOr' (tNot' (tVal (cIs isTupD (vr 0)))) (tOr' (tBl (cOp neD (cCB lenC [(vr 0)]) (cC (.int 2)))) (tOr' (tNot' (tVal (cCall f__law_whole [(cOp ixD (vr 0) (cC (.int 0)))]))) (tBl (cOp ltD (cOp ixD (vr 0) (cC (.int 0))) (cC (.int 1)))))))
  (cRet [] (cC (.bl false)))
  cNil)
  (cSeq (cIf [] (tOr' (tNot' (tVal (cCall f__law_tuple [(cOp ixD (vr 0) (cC (.int 1))), (cC (.int 3))]))) (tBl (cOp neD (cCall f__law_divisor [(cOp addD (cLst [(cOp ixD (vr 0) (cC (.int 0)))]) (cCB listC [(cOp ixD (vr 0) (cC (.int 1)))]))]) (cC (.int 1)))))
  (cRet [] (cC (.bl false)))
  cNil)
  (cRet [] (cOp eqD (cLc (iSeq (cOp ixD (vr 0) (cC (.int 1)))) [3] (.nm 3) tYes' e__law_place_0) (cLc (iSeq (vr 2)) [3] (.nm 3) tYes' e__law_place_1)))))
noncomputable def f__law_place : List D → Option Rs := runB 3 4 b__law_place
noncomputable def b_stays : Sm := (cRet [] (cOp eqD (cOp ixD (cMeth "place" tb_place (vr 0) [(vr 1)]) (cC (.int 0))) (cC (.int 1))))
noncomputable def f_stays : List D → Option Rs := runB 2 2 b_stays
noncomputable def w__law_whole_way_0 : Sm := (cSeq (cIf [] (tBl (cOp isNotD (cCall f_stays [(vr 2), (vr 1)]) (cC (.bl true))))
  (cRet [] (cC (.bl false)))
  cNil)
  (cSet 1 [] (cOp ixD (cMeth "place" tb_place (vr 2) [(vr 1)]) (cC (.int 1)))))
noncomputable def b__law_whole_way : Sm := (cSeq (cFor [] (iSeq (vr 0)) (.nm 2) w__law_whole_way_0)
  (cRet [] (cC (.bl true))))
noncomputable def f__law_whole_way : List D → Option Rs := runB 2 3 b__law_whole_way
noncomputable def b_Turn_back : Sm := (cSeq (cSetT [1, 2, 3, 4] [] (cFld cs_kept "kept" (vr 0)))
  (cRet [] (cMake "Turn" "kept" f_Turn___init__ [(cTup [(vr 1), (cOp subD (cC (.int 0)) (vr 2)), (cOp subD (cC (.int 0)) (vr 3)), (cOp subD (cC (.int 0)) (vr 4))])])))
noncomputable def f_Turn_back : List D → Option Rs := runB 1 5 b_Turn_back
noncomputable abbrev tb_back : List (Str × (List D → Option Rs)) := [("Turn", f_Turn_back)]
noncomputable def b__law_product : Sm := (cSeq (cSetT [2, 3, 4, 5] [] (vr 0))
  (cSeq (cSetT [6, 7, 8, 9] [] (vr 1))
  (cSeq (cSet 10 [] (cOp subD (cOp subD (cOp subD (cOp mulD (vr 2) (vr 6)) (cOp mulD (vr 3) (vr 7))) (cOp mulD (vr 4) (vr 8))) (cOp mulD (vr 5) (vr 9))))
  (cSeq (cSet 11 [] (cOp subD (cOp addD (cOp addD (cOp mulD (vr 2) (vr 7)) (cOp mulD (vr 3) (vr 6))) (cOp mulD (vr 4) (vr 9))) (cOp mulD (vr 5) (vr 8))))
  (cSeq (cSet 12 [] (cOp addD (cOp addD (cOp subD (cOp mulD (vr 2) (vr 8)) (cOp mulD (vr 3) (vr 9))) (cOp mulD (vr 4) (vr 6))) (cOp mulD (vr 5) (vr 7))))
  (cRet [12] (cTup [(vr 10), (vr 11), (vr 12), (cOp addD (cOp subD (cOp addD (cOp mulD (vr 2) (vr 9)) (cOp mulD (vr 3) (vr 8))) (cOp mulD (vr 4) (vr 7))) (cOp mulD (vr 5) (vr 6)))])))))))
noncomputable def f__law_product : List D → Option Rs := runB 2 13 b__law_product
noncomputable def e_law_0 : Ev := (cCall f__law_row [(vr 0), (cOp addD (cC (.int 5)) (cOp mulD (cC (.int 4)) (vr 8)))])
noncomputable def e_law_1 : Ev := (cMake "Turn" "kept" f_Turn___init__ [(vr 12)])
noncomputable def w_law_0 : Sm := (cSeq (cSet 4 [3, 4] (cMeth "behind" tb_behind (cOp ixD (vr 3) (vr 8)) [(vr 4)]))
  (cSeq (cSet 5 [3, 5] (cCall f_behind [(vr 5), (cMeth "table" tb_table (cOp ixD (vr 3) (vr 8)) [])]))
  (cSeq (cSet 6 [1, 6] (cCall f__law_told [(cCall f__law_product [(cOp ixD (vr 1) (vr 8)), (vr 6)])]))
  (cSet 7 [3, 7] (cOp mulD (vr 7) (cCall f_corner_number [(cOp ixD (vr 3) (vr 8))]))))))
noncomputable def e_law_2 : Ev := (cOp mulD (vr 7) (vr 14))
noncomputable def e_law_3 : Ev := (cMeth "back" tb_back (vr 13) [])
noncomputable def e_law_4 : Ev := (cOp mulD (cOp mulD (vr 14) (cOp ixD (cMeth "place" tb_place (vr 4) [(vr 2)]) (cC (.int 0)))) (vr 9))
noncomputable def e_law_5 : Ev := (vr 14)
noncomputable def b_law : Sm := (cSeq (cSet 1 [] (cLc (iRange1 (cOp addD (cC (.int 1)) (cOp modD (cCall f__law_cell [(vr 0), (cC (.int 0))]) (cC (.int 12))))) [8] (.nm 8) tYes' e_law_0))
  (cSeq (cSet 2 [] (cCall f__law_spot [(vr 0), (cC (.int 1))]))
  (cSeq (cSet 3 [1] (cLc (iSeq (vr 1)) [12] (.nm 12) tYes' e_law_1))
  (cSeq (cSet 4 [3] (cOp ixD (vr 3) (cC (.int 0))))
  (cSeq (cSet 5 [3] (cMeth "table" tb_table (cOp ixD (vr 3) (cC (.int 0))) []))
  (cSeq (cSet 6 [1] (cOp ixD (vr 1) (cC (.int 0))))
  (cSeq (cSet 7 [3] (cCall f_corner_number [(cOp ixD (vr 3) (cC (.int 0)))]))
  (cSeq (cFor [1] (iRange2 (cC (.int 1)) (cCB lenC [(vr 1)])) (.nm 8) w_law_0)
  (cSeq (cIf [4, 5, 6, 7] (tOr' (tBl (cOp neD (cMeth "number" tb_number (vr 4) []) (cCall f__law_told [(vr 6)]))) (tOr' (tBl (cOp neD (cMeth "table" tb_table (vr 4) []) (vr 5))) (tBl (cOp neD (cOp modD (vr 7) (cCall f_corner_number [(vr 4)])) (cC (.int 0))))))
  (cRet [] (cC (.bl false)))
  cNil)
  (cSeq (cSetT [9, 10] [2, 3] (cCall f__law_along [(vr 3), (vr 2)]))
  (cSeq (cIf [2, 4] (tNot' (tVal (cCall f__law_place [(cMeth "place" tb_place (vr 4) [(vr 2)]), (vr 9), (vr 10)])))
  (cRet [] (cC (.bl false)))
  cNil)
  (cSeq (cIf [2, 3, 7] (tNot' (tVal (cCall f__law_whole_way [(vr 3), (cCB tupleC [(cLc (iSeq (vr 2)) [14] (.nm 14) tYes' e_law_2)])])))
  (cRet [] (cC (.bl false)))
  cNil)
  (cSeq (cSetT [9, 11] [2, 3, 4] (cCall f__law_along [(cLc (iRv (vr 3)) [13] (.nm 13) tYes' e_law_3), (cOp ixD (cMeth "place" tb_place (vr 4) [(vr 2)]) (cC (.int 1)))]))
  (cRet [2, 4] (cOp eqD (cLc (iSeq (vr 2)) [14] (.nm 14) tYes' e_law_4) (cLc (iSeq (vr 11)) [14] (.nm 14) tYes' e_law_5))))))))))))))))
noncomputable def f_law : List D → Option Rs := runB 1 15 b_law
end HD

set_option Elab.async false
set_option linter.all false
set_option maxRecDepth 100000
set_option maxHeartbeats 0
namespace HD
open PySem L2
local macro_rules
  | `(tactic| wp_walk using $ts,*) => `(tactic| first | simp (maxSteps := 20000000) (disch := first | assumption | exact Sz.of (by decide +kernel) | decide +kernel | omega) only [$[$ts:term],*, List.drop_succ_cons, List.drop_zero, List.take_succ_cons, List.take_zero, List.drop_nil, List.take_nil, List.map_cons, List.map_nil, List.length_cons, List.length_nil, List.cons_append, List.nil_append, List.append_nil, List.replicate_succ, List.replicate_zero, List.contains_cons, List.contains_nil, List.elem_cons, List.elem_nil, Nat.reduceAdd, Nat.reduceSub, Nat.reduceMul, Nat.reduceBEq, Nat.reduceLeDiff, Nat.reduceLT, Nat.reduceEqDiff, Int.reduceAdd, Int.reduceSub, Int.reduceMul, Int.reduceNeg, Int.reducePow, Int.reduceToNat, Int.reduceMod, Int.reduceDiv, Int.reduceLT, Int.reduceLE, Int.reduceEq, Int.reduceNe, Int.cast_ofNat_Int, Int.reduceNegSucc, ↓reduceIte, ite_self, decide_eq_true_eq, decide_eq_false_iff_not, decide_true, decide_false, decide_not, Bool.and_true, Bool.true_and, Bool.and_false, Bool.false_and, Bool.and_self, Bool.or_true, Bool.true_or, Bool.or_false, Bool.false_or, Bool.not_true, Bool.not_false, Bool.not_not, Bool.not_eq_true', Bool.not_eq_true, Bool.and_eq_true, Bool.or_eq_true, Bool.false_eq_true, Bool.not_eq_eq_eq_not, ne_eq, not_true_eq_false, not_false_eq_true, List.sum_cons, List.sum_nil, List.all_cons, List.all_nil, id_eq, Int.add_zero, List.isEmpty_cons, List.isEmpty_nil, Nat.zero_le, and_self, and_true, true_and, or_self, or_true, true_or, or_false, false_or, and_false, false_and, beq_self_eq_true, List.reverse_cons, List.reverse_nil, nr, mulD_ok, fdivD_ok, modD_ok, addD_i, subD_i, negD_i, ltD_i, leD_i, gtD_i, geD_i, eqD_i, neD_i, eqD_b, neD_b, powD_i, eqv_int, eqv_tup, eqv_lst, eqvs_nil, eqvs_cons, eqvs_nc, eqvs_cn, sh_int, sh_bl, sh_non, sh_tup, sh_lst, shs_nil, shs_cons, eqD_tt, eqD_ll, neD_tt, neD_ll, in_tt, eqD_of, neD_of, vr_z, val_sh, val_own, cC_e, bind_v, bind_n, bind_x, bind_ite, cOp_e, cUn_e, map_some, r_v, r_n, d_v, d_n, evs_n, evs_c, headL_v, headL_n, headL_x, consL_ok, consL_x, bindL_ok, bindL_x, cCall_e, cCB_e, cCall0_e, pure0_v, pure0_n, cTup_e, cLst_e, cOr_e, cAnd_e, cNot_e, cIs_e, obind_some, tru_bl, tru_int, tru_tup, tru_lst, cIte_e, iteR_ok, cChain_e, chR_b, tVal_e, tvR_v, tvR_n, tvR_x, tBl_e, tbR_b, tNot_e, ntR_ok, tAnd_e, anR_ok, anR_t, anR_f, tOr_e, orR_ok, orR_t, orR_f, tYes_e, len_tup, len_lst, len_scr, abs_i, sum_l, all_l, tuple_l, tuple_t, tuple_s, list_l, list_t, list_s, ints_n, ints_c, bls_n, bls_c, isInt_i, isBool_i, isInt_b, isInt_n, isInt_s, isInt_t, isInt_l, isBool_b, isBool_n, isBool_s, isBool_t, isBool_l, isTup_i, isTup_b, isTup_n, isTup_s, isTup_l, isLst_l, isLst_t, isLst_i, isLst_n, isStr_s, isStr_i, isStr_n, isStr_t, isStr_l, isTup_t, any_l, anyR_b, anyR_i, bls_i, divmod_ok, lenSet_e, lsR_l, atI_lit, atI_2, atI_3, atI_4, set_map, app_sing, ixN_lit, xorD_i, xor_00, xor_01, xor_02, xor_03, xor_10, xor_11, xor_12, xor_13, xor_20, xor_21, xor_22, xor_23, xor_30, xor_31, xor_32, xor_33, ix_tup, ix_lst, ix_scr, get_z, get_s, slice_e, sp_no, sp_at, spR_i, slD_t, slD_l, cutG_map, app_map, j_map, addD_l, addD_t, take_map, drop_map, cutG_take, cutG_drop, fld_e, meth_e, make_e, insR_v, insR_n, isC_e, initB_e, flat_ins, runB_e, envOf_e, fin_rt, fin_nx, fin_x, fin_ite, seq_e, seq_nx, seq_rt, seq_bk, seq_ct, seq_x, seq_ite, nil_e, mask_e, mask_n, mask_sh, mask_un, mask_own, mask_ite, frz_e, frz_n, frz_sh, frz_un, frz_own, frz_ite, frz_nil, evxR_v0, evxR_n0, evxR_v, evxR_n, evxR_x, evxR_ite, set_e, slot_v, slot_n, lset_z, lset_s, setT_e, setTR_v, tgTu, tgNm, setAll_n, setAll_c, ret_e, retR_v, retR_n, retR_x, retR_ite, retV_e, retVR_sh, retVR_own, retN_e, expr_e, if_e, ifR_ok, ifR_t, ifR_f, par_e, parL_ok, parL_0, for_n, for_c, fset_s, fstep_nx, fstep_ct, fstep_bk, fstep_rt, fstep_x, fstep_ite, lastS_n, lastS_s, mask_lastS, frz_lastS, lv_z, mask_lv, frz_lv, for_e, forR_t, forR_f, bindI_v, bindI_n, iSeq_e, seqD_t, seqD_l, seqD_s, bindLI_ok, iRange1_e, iRange2_e, rg1_i, rg2_i, rgD_z, rgD_s, iEn_e, en1_l, en1_s, enD_n, enD_c, iEnA_e, en2_l, en2_s, en2_t, iZp_e, zp2_l, zp2_t, prD_c, prD_n, prD_n', iRv_e, rv1_t, rv1_l, lc_e, lcR_ok, wipe_n, wipe_c, lc_n, lc_c, lset_some, ltest_t, ltest_ok, lcons_v, lcons_n, on_e, onR_l, isL_e, isLR_l, app_e, ext_e, extR_l, setIx_e, setIR_i, j_snx, j_srt, j_sv, j_sn, j_sok, j_slst, j_srok, j_sbool, j_rv, j_rn, j_vv, j_vn, j_ok, j_nx, j_rt, j_sh, j_own, j_int, j_bl, j_str, j_tup, j_lst, j_cons, j_rok, flat_int, flat_bl, flat_non, flat_str, flat_tup, flat_lst, flat_scr, flats_n, flats_c, flatN_l, mkL, mkR, j_side, eq_side, ne_side, ni_side, in_side, flat_side, beq_tt, flat_dt, sh_dt, eqv_dt, eqD_dt, neD_dt, eqvs_dt, shs_dt, flats_dt, flats_ints, shs_ints, eqvs_ints, tru_dt, j_dt, isNot_dt, isNot_nn, is_dt, is_nn, isNot_i, is_i, isNot_t, is_t, isNot_l, is_l, seqD_dt, len_dt, isTup_dt, ix_dt, en2_dt, zp2_dt, tuple_dt, list_dt, tgDt, flat_tp, flat_mtp, sh_tp, sh_mtp, eqv_tp, eqv_mtp, seqD_tp, seqD_mtp, len_tp, len_mtp, isTup_tp, isTup_mtp, ix_tp, ix_mtp, list_tp, tuple_tp, tgTp, seqD_ls, seqD_mls, ix_ls, ix_mls, sum_ls, tuple_ls, flat_ls, flat_mls, eqD_tab, neD_tab, eq_tabQ, ne_tabQ, flat_tab, flat_tabQ, flat_lowV, flat_plQ, isNot_bb, is_bb, vr_s, tru_non] | trace "EV FAILED")
theorem raw_at (s : Scr) (k : Int) (h : 0 < s.ns.length) : atI (s.ns.map D.int) (k % (s.ns.length : Int)) = some (.int (s.raw k)) := by
  have hp : (0 : Int) < s.ns.length := by omega
  have h1 := Int.emod_nonneg k (b := (s.ns.length : Int)) (by omega)
  have h2 := Int.emod_lt_of_pos k hp
  rw [atI_pos _ _ h1]
  have h3 : (k % (s.ns.length : Int)).toNat < s.ns.length := by omega
  rw [List.getElem?_map, Scr.raw, if_pos h, List.getElem?_eq_getElem h3]
  rfl
theorem cell_e (s : Scr) {k : Int} {n : Nat} [hs : SzC k n] (h : n ≤ 64) : f__law_cell [.scr (s.ns.map .int), .int k] = some (.v (.int (cell s k))) := by
  haveI : SzC k 64 := hs.mono h
  unfold f__law_cell b__law_cell
  by_cases h0 : 0 < s.ns.length
  · haveI : Ps (s.ns.length : Int) := ⟨by omega⟩
    have h1 : (0 : Int) < (s.ns.length : Int) := by omega
    wp_walk using List.length_map, raw_at s k h0, h1, cell
  · have h1 : ¬ (0 : Int) < (s.ns.length : Int) := by omega
    have h2 : s.raw k = 0 := by unfold Scr.raw; rw [if_neg h0]
    wp_walk using List.length_map, h1, cell, h2
theorem whole_e (i : Int) : f__law_whole [.int i] = some (.v (.bl true)) := by
  unfold f__law_whole b__law_whole
  wp_walk using vr_z
theorem div_whl : ∀ (k : Nat) (d : D) (f o : Int), o.natAbs < k → ∃ g : Int, cWhile [] (tBl (cOp neD (vr 2) (cC (.int 0)))) w_divisor_of_0 [.sh d, .sh (.int f), .sh (.int o)] = some (.nx [.sh d, .sh (.int g), .sh (.int 0)]) ∧ g.natAbs = Nat.gcd f.natAbs o.natAbs := by
  intro k
  induction k with
  | zero => intro d f o h; omega
  | succ k ih =>
    intro d f o h
    by_cases h0 : o = 0
    · subst h0
      refine ⟨f, cWhile_end ?_, (Nat.gcd_zero_right _).symm⟩
      wp_walk using vr_z
    · obtain ⟨g, h1, h2⟩ := ih d o (f.fmod o) (by have := fmod_lt (f := f) h0; omega)
      refine ⟨g, cWhile_turn (e2 := [.sh d, .sh (.int o), .sh (.int (f.fmod o))]) ?_ ?_ h1, h2.trans (fmod_gcd f o)⟩
      · wp_walk using h0
      · unfold w_divisor_of_0
        wp_walk using modD_n h0
theorem div_loop : ∀ (l : List Int) (d : D) (f : Int) (x : Slot), ∃ (g : Int) (y : Slot), forGo (.nm 2) w_divisor_of_1 [.sh d, .sh (.int f), x] (l.map .int) = some (.nx [.sh d, .sh (.int g), y]) ∧ g.natAbs = gcdN l f.natAbs := by
  intro l
  induction l with
  | nil => intro d f x; exact ⟨f, x, rfl, rfl⟩
  | cons o l ih =>
    intro d f x
    obtain ⟨g1, a1, a2⟩ := div_whl (o.natAbs + 1) d f o (by omega)
    obtain ⟨g, y, b1, b2⟩ := ih d g1 (.sh (.int 0))
    refine ⟨g, y, ?_, by rw [b2, a2]; rfl⟩
    rw [List.map_cons, for_c, tgNm, fset_s, lset_s, lset_s, lset_z]
    have e : w_divisor_of_1 [.sh d, .sh (.int f), .sh (.int o)] = some (.nx [.sh d, .sh (.int g1), .sh (.int 0)]) := a1
    rw [e, fstep_nx]
    exact b1
theorem divisor_e (l : List Int) : f_divisor_of [.lst (l.map .int)] = some (.v (.int (gcdL l))) := by
  obtain ⟨g, y, h1, h2⟩ := div_loop l (.lst (l.map .int)) 0 .un
  have e : (if g < 0 then -g else g) = gcdL l := by
    unfold gcdL
    have h3 : g.natAbs = gcdN l 0 := h2
    rw [← h3]
    split <;> omega
  unfold f_divisor_of b_divisor_of
  wp_walk using h1, e
theorem divisor_t (l : List Int) : f_divisor_of [.tup (l.map .int)] = some (.v (.int (gcdL l))) := by
  obtain ⟨g, y, h1, h2⟩ := div_loop l (.tup (l.map .int)) 0 .un
  have e : (if g < 0 then -g else g) = gcdL l := by
    unfold gcdL
    have h3 : g.natAbs = gcdN l 0 := h2
    rw [← h3]
    split <;> omega
  unfold f_divisor_of b_divisor_of
  wp_walk using h1, e
theorem ldiv_whl : ∀ (k : Nat) (d : D) (f o : Int), o.natAbs < k → ∃ g : Int, cWhile [] (tBl (cOp neD (vr 2) (cC (.int 0)))) w__law_divisor_0 [.sh d, .sh (.int f), .sh (.int o)] = some (.nx [.sh d, .sh (.int g), .sh (.int 0)]) ∧ g.natAbs = Nat.gcd f.natAbs o.natAbs := by
  intro k
  induction k with
  | zero => intro d f o h; omega
  | succ k ih =>
    intro d f o h
    by_cases h0 : o = 0
    · subst h0
      refine ⟨f, cWhile_end ?_, (Nat.gcd_zero_right _).symm⟩
      wp_walk using vr_z
    · obtain ⟨g, h1, h2⟩ := ih d o (f.fmod o) (by have := fmod_lt (f := f) h0; omega)
      refine ⟨g, cWhile_turn (e2 := [.sh d, .sh (.int o), .sh (.int (f.fmod o))]) ?_ ?_ h1, h2.trans (fmod_gcd f o)⟩
      · wp_walk using h0
      · unfold w__law_divisor_0
        wp_walk using modD_n h0
theorem ldiv_loop : ∀ (l : List Int) (d : D) (f : Int) (x : Slot), ∃ (g : Int) (y : Slot), forGo (.nm 2) w__law_divisor_1 [.sh d, .sh (.int f), x] (l.map .int) = some (.nx [.sh d, .sh (.int g), y]) ∧ g.natAbs = gcdN l f.natAbs := by
  intro l
  induction l with
  | nil => intro d f x; exact ⟨f, x, rfl, rfl⟩
  | cons o l ih =>
    intro d f x
    obtain ⟨g1, a1, a2⟩ := ldiv_whl (o.natAbs + 1) d f o (by omega)
    obtain ⟨g, y, b1, b2⟩ := ih d g1 (.sh (.int 0))
    refine ⟨g, y, ?_, by rw [b2, a2]; rfl⟩
    rw [List.map_cons, for_c, tgNm, fset_s, lset_s, lset_s, lset_z]
    have e : w__law_divisor_1 [.sh d, .sh (.int f), .sh (.int o)] = some (.nx [.sh d, .sh (.int g1), .sh (.int 0)]) := a1
    rw [e, fstep_nx]
    exact b1
theorem ldivisor_e (l : List Int) : f__law_divisor [.lst (l.map .int)] = some (.v (.int (gcdL l))) := by
  obtain ⟨g, y, h1, h2⟩ := ldiv_loop l (.lst (l.map .int)) 0 .un
  have e : (if g < 0 then -g else g) = gcdL l := by
    unfold gcdL
    have h3 : g.natAbs = gcdN l 0 := h2
    rw [← h3]
    split <;> omega
  unfold f__law_divisor b__law_divisor
  wp_walk using h1, e
theorem ldivisor_t (l : List Int) : f__law_divisor [.tup (l.map .int)] = some (.v (.int (gcdL l))) := by
  obtain ⟨g, y, h1, h2⟩ := ldiv_loop l (.tup (l.map .int)) 0 .un
  have e : (if g < 0 then -g else g) = gcdL l := by
    unfold gcdL
    have h3 : g.natAbs = gcdN l 0 := h2
    rw [← h3]
    split <;> omega
  unfold f__law_divisor b__law_divisor
  wp_walk using h1, e
theorem gT_e (n : Int) (m : M3) : f_divisor_of [.lst [.int n, .int m.a.x, .int m.a.y, .int m.a.z, .int m.b.x, .int m.b.y, .int m.b.z, .int m.c.x, .int m.c.y, .int m.c.z]] = some (.v (.int (gT n m))) := divisor_e (n :: m.l)
theorem lowest_e {n : Int} {m : M3} {a b : Nat} [h1 : SzC n a] [h2 : MC m b] (hn : 0 < n) (ha : a ≤ 8000) (hb : b ≤ 10000) : f_lowest [tab n m] = some (.v (lowT n m)) := by
  haveI := h1.mono ha
  haveI := h2.mono hb
  haveI : Ps (gT n m) := ⟨gT_pos m hn⟩
  haveI : SzC (gT n m) 8000 := gT_sz hn (h1.mono ha)
  unfold f_lowest b_lowest e_lowest_1 e_lowest_0
  wp_walk using tab, gT_e
  rfl
theorem summed_e {v w : V3} {m n : Nat} [h1 : VC v m] [h2 : VC w n] (hm : m ≤ 40000) (hn : n ≤ 40000) : f_summed [v.tp, w.tp] = some (.v (.int (v.dot w))) := by
  haveI := h1.mono hm
  haveI := h2.mono hn
  unfold f_summed b_summed
  wp_walk using V3.dot
theorem gV_e (n : Int) (v : V3) : f_divisor_of [.lst [.int n, .int v.x, .int v.y, .int v.z]] = some (.v (.int (gV n v))) := divisor_e (n :: v.l)
theorem place_by_e {n : Int} {m : M3} {v : V3} {a b c : Nat} [h1 : SzC n a] [h2 : MC m b] [h3 : VC v c] (hn : 0 < n) (ha : a ≤ 8000) (hb : b ≤ 10000) (hc : c ≤ 10000) : f_place_by [tab n m, v.tp] = some (.v (lowV n (m.app v))) := by
  haveI := h1.mono ha
  haveI := h2.mono hb
  haveI := h3.mono hc
  haveI : Ps (gV n (m.app v)) := ⟨gV_pos _ hn⟩
  haveI : SzC (gV n (m.app v)) 8000 := gV_sz hn (h1.mono ha)
  have e : f_divisor_of [.lst [.int n, .int (m.a.dot v), .int (m.b.dot v), .int (m.c.dot v)]] = some (.v (.int (gV n (m.app v)))) := gV_e n (m.app v)
  unfold f_place_by b_place_by e_place_by_0 e_place_by_1
  wp_walk using tab, summed_e, e
  rfl
theorem behind_e {n k : Int} {m p : M3} {a b c d : Nat} [h1 : SzC n a] [h2 : MC m b] [h3 : SzC k c] [h4 : MC p d] (hn : 0 < n) (hk : 0 < k) (ha : a ≤ 3000) (hb : b ≤ 3000) (hc : c ≤ 3000) (hd : d ≤ 3000) : f_behind [tab n m, tab k p] = some (.v (lowT (n * k) (p.mul m))) := by
  haveI := h1.mono ha
  haveI := h2.mono hb
  haveI := h3.mono hc
  haveI := h4.mono hd
  have hp : 0 < n * k := Int.mul_pos hn hk
  have e1 : D.tup [.int m.a.x, .int m.b.x, .int m.c.x] = m.col.a.tp := rfl
  have e2 : D.tup [.int m.a.y, .int m.b.y, .int m.c.y] = m.col.b.tp := rfl
  have e3 : D.tup [.int m.a.z, .int m.b.z, .int m.c.z] = m.col.c.tp := rfl
  have e4 : D.tup [.int (n * k), D.tup [D.tup [.int (p.a.dot m.col.a), .int (p.a.dot m.col.b), .int (p.a.dot m.col.c)], D.tup [.int (p.b.dot m.col.a), .int (p.b.dot m.col.b), .int (p.b.dot m.col.c)], D.tup [.int (p.c.dot m.col.a), .int (p.c.dot m.col.b), .int (p.c.dot m.col.c)]]] = tab (n * k) (p.mul m) := by
    have : p.mul m = ⟨⟨p.a.dot m.col.a, p.a.dot m.col.b, p.a.dot m.col.c⟩, ⟨p.b.dot m.col.a, p.b.dot m.col.b, p.b.dot m.col.c⟩, ⟨p.c.dot m.col.a, p.c.dot m.col.b, p.c.dot m.col.c⟩⟩ := by
      apply M3.ext' <;> apply V3.ext' <;> simp only [M3.mul, M3.app, V3.dot] <;> grind
    rw [this]
    rfl
  have hl := lowest_e (n := n * k) (m := p.mul m) hp (by omega) (by omega)
  unfold f_behind b_behind e_behind_1 e_behind_0 e_behind_3 e_behind_2
  have u1 : tab n m = .tup [.int n, m.tp] := rfl
  have u2 : tab k p = .tup [.int k, p.tp] := rfl
  rw [u1, u2]
  wp_walk using e1, e2, e3, summed_e, e4, hl
def numL (c k : Int) : Int := if k % 3 = 0 then c * 1000012000054000108000081 % 200000000000000000001 - 100000000000000000000 else if k % 3 = 1 then c % 61 - 30 else c % 7 - 3
instance {c k : Int} : SzC (numL c k) 70 := by
  unfold numL
  split
  · exact ⟨by omega⟩
  · split
    · exact ⟨by omega⟩
    · exact ⟨by omega⟩
theorem number_e {c k : Int} {n : Nat} [h : SzC c n] (hn : n ≤ 10000000) : f__law_number [.int c, .int k] = some (.v (.int (numL c k))) := by
  haveI := h.mono hn
  unfold f__law_number b__law_number
  wp_walk using numL
def spotV (s : Scr) (k : Int) : V3 := ⟨numL (cell s (k + 1 + 0)) (cell s k), numL (cell s (k + 1 + 1)) (cell s k), numL (cell s (k + 1 + 2)) (cell s k)⟩
instance {s : Scr} {k : Int} : VC (spotV s k) 70 := ⟨inferInstanceAs (SzC (numL _ _) 70), inferInstanceAs (SzC (numL _ _) 70), inferInstanceAs (SzC (numL _ _) 70)⟩
theorem spot_e (s : Scr) {k : Int} {n : Nat} [hs : SzC k n] (h : n ≤ 60) : f__law_spot [.scr (s.ns.map .int), .int k] = some (.v (spotV s k).tp) := by
  haveI : SzC k 60 := hs.mono h
  unfold f__law_spot b__law_spot e__law_spot_0
  wp_walk using cell_e, number_e, mk_tp
  unfold spotV
  rw [Int.add_zero (k + 1)]
theorem gQ_e (q : Q) : f_divisor_of [q.dt] = some (.v (.int (gQ q))) := divisor_t q.l
theorem told_loop (q : Q) (e0 e1 : D) : forGo (.nm 2) w_as_told_0 [.sh e0, .sh e1, .un, .un] [.int q.d, .int q.c, .int q.b, .int q.a] = some (.nx [.sh e0, .sh e1, .sh (.int q.a), .sh (.int (fstQ q))]) ∨ q = ⟨0, 0, 0, 0⟩ := by
  unfold w_as_told_0 fstQ
  by_cases ha : q.a = 0 <;> by_cases hb : q.b = 0 <;> by_cases hc : q.c = 0 <;> by_cases hd : q.d = 0
  all_goals first
    | exact .inr (Q.ext' ha hb hc hd)
    | (refine .inl ?_; wp_walk using ha, hb, hc, hd)
theorem rv1_dt (q : Q) : rv1 q.dt = some (.ok [.int q.d, .int q.c, .int q.b, .int q.a] true) := rfl
theorem as_told_e {q : Q} {n : Nat} [h : QC q n] (hn : n ≤ 8000) (h0 : ¬ q = ⟨0, 0, 0, 0⟩) : f_as_told [q.dt] = some (.v (toldQ q).dt) := by
  haveI := h.mono hn
  haveI : SzC (byQ q) 8000 := by_sz h0
  have hb := by_ne h0
  have hg : ¬ gQ q = 0 := by have := gQ_pos h0; omega
  have hby : (if fstQ q < 0 then 0 - gQ q else gQ q) = byQ q := rfl
  have f1 := fdivD_ex (x := q.a) (n := 8000) hb (by_dvd q (by simp [Q.l])) (by decide)
  have f2 := fdivD_ex (x := q.b) (n := 8000) hb (by_dvd q (by simp [Q.l])) (by decide)
  have f3 := fdivD_ex (x := q.c) (n := 8000) hb (by_dvd q (by simp [Q.l])) (by decide)
  have f4 := fdivD_ex (x := q.d) (n := 8000) hb (by_dvd q (by simp [Q.l])) (by decide)
  have hl := told_loop q q.dt (.int (gQ q))
  have hl := hl.resolve_right h0
  have e : (toldQ q).dt = .tup [.int (q.a / byQ q), .int (q.b / byQ q), .int (q.c / byQ q), .int (q.d / byQ q)] := rfl
  rw [e]
  unfold f_as_told b_as_told e_as_told_0
  wp_walk using gQ_e, hg, rv1_dt, hl, hby, f1, f2, f3, f4
theorem lgQ_e (q : Q) : f__law_divisor [q.dt] = some (.v (.int (gQ q))) := ldivisor_t q.l
theorem ltold_e {q : Q} {n : Nat} [h : QC q n] (hn : n ≤ 8000) (h0 : ¬ q = ⟨0, 0, 0, 0⟩) : f__law_told [q.dt] = some (.v (toldQ q).dt) := by
  haveI := h.mono hn
  haveI : SzC (byQ q) 8000 := by_sz h0
  have hb := by_ne h0
  have hby : (if fstQ q < 0 then 0 - gQ q else gQ q) = byQ q := rfl
  have f1 := fdivD_ex (x := q.a) (n := 8000) hb (by_dvd q (by simp [Q.l])) (by decide)
  have f2 := fdivD_ex (x := q.b) (n := 8000) hb (by_dvd q (by simp [Q.l])) (by decide)
  have f3 := fdivD_ex (x := q.c) (n := 8000) hb (by_dvd q (by simp [Q.l])) (by decide)
  have f4 := fdivD_ex (x := q.d) (n := 8000) hb (by_dvd q (by simp [Q.l])) (by decide)
  have e : (toldQ q).dt = .tup [.int (q.a / byQ q), .int (q.b / byQ q), .int (q.c / byQ q), .int (q.d / byQ q)] := rfl
  rw [e]
  unfold f__law_told b__law_told e__law_told_0 e__law_told_1
  unfold fstQ at hby
  by_cases ha : q.a = 0 <;> by_cases hb' : q.b = 0 <;> by_cases hc : q.c = 0 <;> by_cases hd : q.d = 0
  all_goals first
    | exact absurd (Q.ext' ha hb' hc hd) h0
    | (simp only [ha, hb', hc, hd, ne_eq, not_true_eq_false, not_false_eq_true, if_true, if_false] at hby f1 f2 f3 f4
       wp_walk using lgQ_e, ha, hb', hc, hd, hby, f1, f2, f3, f4)
theorem lprod_e {p q : Q} {m n : Nat} [QC p m] [QC q n] (h : m + n ≤ 99999000) : f__law_product [p.dt, q.dt] = some (.v (p.mul q).dt) := by
  unfold f__law_product b__law_product
  wp_walk using Q.mul, mk_dt
theorem table_of_e {q : Q} {n : Nat} [h : QC q n] (hn : n ≤ 2000) (h0 : ¬ q = ⟨0, 0, 0, 0⟩) : f_table_of [q.dt] = some (.v (tabQ q)) := by
  haveI := h.mono hn
  have hp := sq_pos h0
  have hs : q.a * q.a + q.b * q.b + q.c * q.c + q.d * q.d = q.sq := rfl
  have hz : ¬ q.sq = 0 := by omega
  have hr : D.tup [.int q.sq, .tup [.tup [.int (q.a * q.a + q.b * q.b - q.c * q.c - q.d * q.d), .int (2 * q.b * q.c - 2 * q.a * q.d), .int (2 * q.b * q.d + 2 * q.a * q.c)], .tup [.int (2 * q.b * q.c + 2 * q.a * q.d), .int (q.a * q.a - q.b * q.b + q.c * q.c - q.d * q.d), .int (2 * q.c * q.d - 2 * q.a * q.b)], .tup [.int (2 * q.b * q.d - 2 * q.a * q.c), .int (2 * q.c * q.d + 2 * q.a * q.b), .int (q.a * q.a - q.b * q.b - q.c * q.c + q.d * q.d)]]] = tab q.sq (rotM q) := rfl
  have hl := lowest_e (n := q.sq) (m := rotM q) hp (by decide) (by decide)
  unfold f_table_of b_table_of tabQ
  wp_walk using hs, hz, hr, hl
def trn (q : Q) : D := .ins "Turn" [("kept", (toldQ q).dt)]
theorem turn_init {q : Q} {n : Nat} [h : QC q n] (hn : n ≤ 8000) (h0 : ¬ q = ⟨0, 0, 0, 0⟩) : f_Turn___init__ [q.dt] = some (.v (toldQ q).dt) := by
  have e := as_told_e hn h0
  unfold f_Turn___init__ b_Turn___init__
  wp_walk using e
theorem ins_trn {q : Q} {n : Nat} [h : QC q n] (hn : n ≤ 8000) (h0 : ¬ q = ⟨0, 0, 0, 0⟩) : insR "Turn" "kept" (f_Turn___init__ [q.dt]) = some (.v (trn q)) := by
  rw [turn_init hn h0]
  rfl
theorem kept_trn (q : Q) : fldD cs_kept "kept" (trn q) = some (.v (toldQ q).dt) := rfl
theorem flat_trn (q : Q) : D.flat (trn q) = false := flat_ins _ _
theorem mR_number (q : Q) (fs : List Ev) (env : En) : methR "number" tb_number fs env (trn q) = bindL (evs fs env) fun ds => f_Turn_number (trn q :: ds) := rfl
theorem mR_table (q : Q) (fs : List Ev) (env : En) : methR "table" tb_table fs env (trn q) = bindL (evs fs env) fun ds => f_Turn_table (trn q :: ds) := rfl
theorem mR_place (q : Q) (fs : List Ev) (env : En) : methR "place" tb_place fs env (trn q) = bindL (evs fs env) fun ds => f_Deed_place (trn q :: ds) := rfl
theorem number_trn (q : Q) : f_Turn_number [trn q] = some (.v (toldQ q).dt) := by
  unfold f_Turn_number b_Turn_number
  wp_walk using kept_trn, vr_z
theorem table_trn {q : Q} {n : Nat} [h : QC q n] (hn : n ≤ 2000) (h0 : ¬ q = ⟨0, 0, 0, 0⟩) : f_Turn_table [trn q] = some (.v (tabQ q)) := by
  haveI := h.mono hn
  have e := table_of_e (q := toldQ q) (n := 2000) (by decide) (told_ne h0)
  rw [tab_told h0] at e
  unfold f_Turn_table b_Turn_table
  wp_walk using kept_trn, e
theorem place_tab {q : Q} {v : V3} {n m : Nat} [h : QC q n] [h2 : VC v m] (hn : n ≤ 2000) (hm : m ≤ 10000) (h0 : ¬ q = ⟨0, 0, 0, 0⟩) : f_place_by [tabQ q, v.tp] = some (.v (plQ q v)) := by
  haveI := h.mono hn
  have hp := sq_pos h0
  haveI : Ps (gT q.sq (rotM q)) := ⟨gT_pos _ hp⟩
  have e := place_by_e (n := q.sq / gT q.sq (rotM q)) (m := (rotM q).ov (gT q.sq (rotM q))) (v := v) (lowT_pos hp _) (by decide) (by decide) hm
  rw [lowV_low hp] at e
  exact e
theorem place_trn {q : Q} {v : V3} {n m : Nat} [h : QC q n] [h2 : VC v m] (hn : n ≤ 2000) (hm : m ≤ 10000) (h0 : ¬ q = ⟨0, 0, 0, 0⟩) : f_Deed_place [trn q, v.tp] = some (.v (plQ q v)) := by
  have e1 := table_trn hn h0
  have e2 := place_tab (v := v) hn hm h0
  unfold f_Deed_place b_Deed_place
  wp_walk using mR_table, e1, e2
theorem pprod_e {p q : Q} {m n : Nat} [QC p m] [QC q n] (h : m + n ≤ 99999000) : f_plain_product [p.dt, q.dt] = some (.v (p.mul q).dt) := by
  unfold f_plain_product b_plain_product
  wp_walk using Q.mul, mk_dt
theorem mR_behind (q : Q) (fs : List Ev) (env : En) : methR "behind" tb_behind fs env (trn q) = bindL (evs fs env) fun ds => f_Turn_behind (trn q :: ds) := rfl
theorem behind_trn {p q : Q} {m n : Nat} [h : QC p m] [h2 : QC q n] (hm : m ≤ 3000) (hn : n ≤ 3000) (hp : ¬ p = ⟨0, 0, 0, 0⟩) (hq : ¬ q = ⟨0, 0, 0, 0⟩) : f_Turn_behind [trn p, trn q] = some (.v (trn (p.mul q))) := by
  haveI := h.mono hm
  haveI := h2.mono hn
  have e0 := number_trn q
  have e1 := pprod_e (p := toldQ p) (q := toldQ q) (m := 3000) (n := 3000) (by decide)
  have e2 := ins_trn (q := (toldQ p).mul (toldQ q)) (n := 3000 + 3000 + 3) (by decide) (mul_ne (told_ne hp) (told_ne hq))
  have e3 : trn ((toldQ p).mul (toldQ q)) = trn (p.mul q) := by
    unfold trn
    rw [told_mul hp hq]
  rw [e3] at e2
  unfold f_Turn_behind b_Turn_behind
  wp_walk using kept_trn, mR_number, e0, e1, e2
/-- multiples make one turn -/
theorem trn_eq {p q : Q} {k m : Int} (hp : ¬ p = ⟨0, 0, 0, 0⟩) (hq : ¬ q = ⟨0, 0, 0, 0⟩) (hk : k ≠ 0) (hm : m ≠ 0) (h : p.smul k = q.smul m) : trn p = trn q := by
  unfold trn
  rw [told_eq hp hq hk hm h]
theorem mR_back (q : Q) (fs : List Ev) (env : En) : methR "back" tb_back fs env (trn q) = bindL (evs fs env) fun ds => f_Turn_back (trn q :: ds) := rfl
theorem back_trn {q : Q} {n : Nat} [h : QC q n] (hn : n ≤ 8000) (hq : ¬ q = ⟨0, 0, 0, 0⟩) : f_Turn_back [trn q] = some (.v (trn q.bar)) := by
  haveI := h.mono hn
  have e2 := ins_trn (q := (toldQ q).bar) (n := 8000) (by decide) (bar_ne' (told_ne hq))
  have e3 : trn (toldQ q).bar = trn q.bar := by
    unfold trn
    rw [told_bar hq]
  have e4 : D.tup [.int (toldQ q).a, .int (-(toldQ q).b), .int (-(toldQ q).c), .int (-(toldQ q).d)] = (toldQ q).bar.dt := rfl
  rw [e3] at e2
  unfold f_Turn_back b_Turn_back
  wp_walk using kept_trn, Int.zero_sub, e4, e2
theorem tabQ_sz {q : Q} {n : Nat} [h : QC q n] (h0 : ¬ q = ⟨0, 0, 0, 0⟩) : ∃ (g k : Int) (P : M3), tabQ q = tab k P ∧ 0 < g ∧ 0 < k ∧ g * k = q.sq ∧ P.sm g = rotM q ∧ gT k P = 1 ∧ SzC k (n + n + 3) ∧ MC P (n + n + 10) := by
  have hp := sq_pos h0
  obtain ⟨a1, a2⟩ := lowT_back hp (rotM q)
  haveI : Ps (gT q.sq (rotM q)) := ⟨gT_pos _ hp⟩
  exact ⟨_, _, _, rfl, gT_pos _ hp, lowT_pos hp _, a1, a2, lowT_gcd hp _, inferInstance, inferInstance⟩
theorem behind_tab {p q : Q} {m n : Nat} [h : QC p m] [h2 : QC q n] (hm : m ≤ 1400) (hn : n ≤ 1400) (hp : ¬ p = ⟨0, 0, 0, 0⟩) (hq : ¬ q = ⟨0, 0, 0, 0⟩) : f_behind [tabQ p, tabQ q] = some (.v (tabQ (q.mul p))) := by
  haveI := h.mono hm
  haveI := h2.mono hn
  obtain ⟨g, k, P, e, g0, k0, a1, a2, _, s1, s2⟩ := tabQ_sz hp
  obtain ⟨g', k', P', e', g0', k0', a1', a2', _, s1', s2'⟩ := tabQ_sz hq
  have hb := behind_e (n := k) (m := P) (k := k') (p := P') k0 k0' (by omega) (by omega) (by omega) (by omega)
  have hs := lowT_scl (Int.mul_pos g0' g0) (Int.mul_pos k0 k0') (P'.mul P)
  have x1 : g' * g * (k * k') = (q.mul p).sq := by
    rw [Q.mul_sq, ← a1, ← a1']
    grind
  have x2 : (P'.mul P).sm (g' * g) = rotM (q.mul p) := by
    rw [rot_mul, ← a2, ← a2', M3.sm_mul, M3.mul_sm]
    apply M3.ext' <;> apply V3.ext' <;> simp only [M3.sm, V3.sm] <;> grind
  rw [x1, x2] at hs
  rw [e, e', hb, ← hs]
  rfl
theorem tuple_e (v : V3) : f__law_tuple [v.tp, .int 3] = some (.v (.bl true)) := by
  unfold f__law_tuple b__law_tuple e__law_tuple_0
  wp_walk using whole_e
theorem lgV_e (n : Int) (v : V3) : f__law_divisor [.lst [.int n, .int v.x, .int v.y, .int v.z]] = some (.v (.int (gV n v))) := ldivisor_e (n :: v.l)
theorem lplace_e {n k : Int} {v w : V3} {a b c d : Nat} [h1 : SzC n a] [h2 : VC v b] [h3 : SzC k c] [h4 : VC w d] (hn : 0 < n) (hg : gV n v = 1) (he : v.sm k = w.sm n) (ha : a ≤ 10000) (hb : b ≤ 10000) (hc : c ≤ 10000) (hd : d ≤ 10000) :
    f__law_place [.tup [.int n, v.tp], .int k, w.tp] = some (.v (.bl true)) ∧ f__law_place [.tup [.int n, v.tp], .int k, w.ls] = some (.v (.bl true)) := by
  haveI := h1.mono ha
  haveI := h2.mono hb
  haveI := h3.mono hc
  haveI := h4.mono hd
  have e1 : v.x * k = w.x * n := by have := congrArg V3.x he; simp only [V3.sm] at this; rw [Int.mul_comm, this, Int.mul_comm]
  have e2 : v.y * k = w.y * n := by have := congrArg V3.y he; simp only [V3.sm] at this; rw [Int.mul_comm, this, Int.mul_comm]
  have e3 : v.z * k = w.z * n := by have := congrArg V3.z he; simp only [V3.sm] at this; rw [Int.mul_comm, this, Int.mul_comm]
  have h1 : ¬ n < 1 := by omega
  unfold f__law_place b__law_place e__law_place_0 e__law_place_1
  constructor
  · wp_walk using whole_e, tuple_e, h1, lgV_e, hg, e1, e2, e3
  · wp_walk using whole_e, tuple_e, h1, lgV_e, hg, e1, e2, e3
/-- the law's look at a place, at any other terms -/
theorem lplace_low {n k : Int} {v w : V3} {a b c d : Nat} [h1 : SzC n a] [h2 : VC v b] [h3 : SzC k c] [h4 : VC w d] (hn : 0 < n) (hk : 0 < k) (he : v.sm k = w.sm n) (ha : a ≤ 8000) (hb : b ≤ 10000) (hc : c ≤ 8000) (hd : d ≤ 10000) :
    f__law_place [lowV n v, .int k, w.tp] = some (.v (.bl true)) ∧ f__law_place [lowV n v, .int k, w.ls] = some (.v (.bl true)) := by
  haveI := h1.mono ha
  haveI := h2.mono hb
  haveI : Ps (gV n v) := ⟨gV_pos _ hn⟩
  have hg := lowV_gcd hn v
  have hp := lowV_pos hn v
  have hc' := lowV_cross hn v
  have key : (v.ov (gV n v)).sm k = w.sm (n / gV n v) := by
    obtain ⟨b1, b2⟩ := lowV_back hn v
    have hgp := gV_pos v hn
    have inj : ∀ x y : Int, gV n v * x = gV n v * y → x = y := fun x y h => Int.eq_of_mul_eq_mul_left (by omega) h
    have q1 := congrArg V3.x b2
    have q2 := congrArg V3.y b2
    have q3 := congrArg V3.z b2
    have r1 := congrArg V3.x he
    have r2 := congrArg V3.y he
    have r3 := congrArg V3.z he
    simp only [V3.sm] at q1 q2 q3 r1 r2 r3
    apply V3.ext' <;> simp only [V3.sm] <;> apply inj <;> grind
  exact lplace_e (n := n / gV n v) (k := k) (v := v.ov (gV n v)) (w := w) (a := 8000) (b := 10000) hp hg key (by decide) (by decide) (by omega) hd
theorem ix0_tabQ (q : Q) : ixD (tabQ q) (.int 0) = some (.v (.int (crQ q))) := rfl
theorem corner_e {q : Q} {n : Nat} [h : QC q n] (hn : n ≤ 2000) (h0 : ¬ q = ⟨0, 0, 0, 0⟩) : f_corner_number [trn q] = some (.v (.int (crQ q))) := by
  have e1 := table_trn hn h0
  unfold f_corner_number b_corner_number
  wp_walk using mR_table, e1, ix0_tabQ
theorem ix0_plQ (q : Q) (v : V3) : ixD (plQ q v) (.int 0) = some (.v (.int (q.sq / gV q.sq ((rotM q).app v)))) := rfl
theorem stays_e {q : Q} {v : V3} {n m : Nat} [h : QC q n] [h2 : VC v m] (hn : n ≤ 2000) (hm : m ≤ 10000) (h0 : ¬ q = ⟨0, 0, 0, 0⟩) : f_stays [trn q, v.tp] = some (.v (.bl (stB q v))) := by
  have e1 := place_trn (v := v) hn hm h0
  have e2 := st_iff h0 v
  unfold f_stays b_stays
  wp_walk using mR_place, e1, ix0_plQ, e2
/-! turns one behind the other -/
def chQ (l : List Q) : Q := l.foldl (fun acc r => r.mul acc) ⟨1, 0, 0, 0⟩
theorem mul_one' (r : Q) : r.mul ⟨1, 0, 0, 0⟩ = r := by apply Q.ext' <;> simp only [Q.mul] <;> omega
theorem one_mul' (r : Q) : (⟨1, 0, 0, 0⟩ : Q).mul r = r := by apply Q.ext' <;> simp only [Q.mul] <;> omega
theorem ch_from : ∀ (l : List Q) (x : Q), l.foldl (fun acc r => r.mul acc) x = (chQ l).mul x
  | [], x => (one_mul' x).symm
  | y :: l, x => by
    show l.foldl _ (y.mul x) = (l.foldl (fun acc r => r.mul acc) (y.mul ⟨1, 0, 0, 0⟩)).mul x
    rw [ch_from l, ch_from l, mul_one', Q.mul_assoc]
theorem chQ_cons (r : Q) (l : List Q) : chQ (r :: l) = (chQ l).mul r := by
  show l.foldl (fun acc r => r.mul acc) (r.mul ⟨1, 0, 0, 0⟩) = _
  rw [ch_from, mul_one']
theorem chQ_snoc (l : List Q) (r : Q) : chQ (l ++ [r]) = r.mul (chQ l) := by
  unfold chQ
  rw [List.foldl_append]
  rfl
theorem bar_mul (p q : Q) : (p.mul q).bar = q.bar.mul p.bar := by apply Q.ext' <;> simp only [Q.mul, Q.bar] <;> grind
theorem chQ_bar : ∀ l : List Q, chQ (l.reverse.map Q.bar) = (chQ l).bar
  | [] => rfl
  | r :: l => by rw [List.reverse_cons, List.map_append, chQ_cons, bar_mul, ← chQ_bar l]; exact chQ_snoc _ _
theorem chQ_ne : ∀ {l : List Q}, (∀ r ∈ l, ¬ r = ⟨0, 0, 0, 0⟩) → ¬ chQ l = ⟨0, 0, 0, 0⟩
  | [], _ => by decide
  | r :: l, h => by
    rw [chQ_cons]
    exact mul_ne (chQ_ne fun x hx => h x (List.mem_cons_of_mem _ hx)) (h r (List.mem_cons_self ..))
theorem chQ_sz : ∀ {l : List Q}, (∀ r ∈ l, QC r 70) → QC (chQ l) (1 + 73 * l.length)
  | [], _ => ⟨⟨by decide⟩, ⟨by decide⟩, ⟨by decide⟩, ⟨by decide⟩⟩
  | r :: l, h => by
    rw [chQ_cons]
    haveI := chQ_sz (l := l) fun x hx => h x (List.mem_cons_of_mem _ hx)
    haveI := h r (List.mem_cons_self ..)
    exact QC.mono (inferInstance : QC ((chQ l).mul r) _) (by rw [List.length_cons]; omega)
def crP : List Q → Int
  | [] => 1
  | r :: l => crQ r * crP l
theorem crP_snoc : ∀ (l : List Q) (r : Q), crP (l ++ [r]) = crP l * crQ r
  | [], r => by show crQ r * 1 = 1 * crQ r; omega
  | x :: l, r => by show crQ x * crP (l ++ [r]) = crQ x * crP l * crQ r; rw [crP_snoc l, Int.mul_assoc]
theorem cr_sz {q : Q} {n : Nat} [h : QC q n] (h0 : ¬ q = ⟨0, 0, 0, 0⟩) : SzC (crQ q) (n + n + 3) := by
  haveI : Ps (gT q.sq (rotM q)) := ⟨gT_pos _ (sq_pos h0)⟩
  exact inferInstanceAs (SzC (q.sq / gT q.sq (rotM q)) _)
theorem crP_sz : ∀ {l : List Q}, (∀ r ∈ l, QC r 70 ∧ ¬ r = ⟨0, 0, 0, 0⟩) → SzC (crP l) (1 + 143 * l.length)
  | [], _ => ⟨by decide⟩
  | r :: l, h => by
    haveI := crP_sz (l := l) fun x hx => h x (List.mem_cons_of_mem _ hx)
    haveI := (h r (List.mem_cons_self ..)).1
    haveI := cr_sz (h r (List.mem_cons_self ..)).2
    exact SzC.mono (inferInstance : SzC (crQ r * crP l) _) (by rw [List.length_cons]; omega)
theorem mm4 (a b c d : Int) : a * b * (c * d) = a * c * (b * d) := by grind
theorem cr_mul_dvd {p q : Q} (hp : ¬ p = ⟨0, 0, 0, 0⟩) (hq : ¬ q = ⟨0, 0, 0, 0⟩) : crQ (p.mul q) ∣ crQ p * crQ q := by
  have hp' := sq_pos hp
  have hq' := sq_pos hq
  obtain ⟨a1, a2⟩ := lowT_back hp' (rotM p)
  obtain ⟨b1, b2⟩ := lowT_back hq' (rotM q)
  have g1 := gT_pos (rotM p) hp'
  have g2 := gT_pos (rotM q) hq'
  have k0 : 0 < crQ p * crQ q := Int.mul_pos (cr_pos hp) (cr_pos hq)
  have e := (lowT_scale (Int.mul_pos g1 g2) k0 (((rotM p).ov (gT p.sq (rotM p))).mul ((rotM q).ov (gT q.sq (rotM q))))).1
  have x1 : gT p.sq (rotM p) * gT q.sq (rotM q) * (crQ p * crQ q) = (p.mul q).sq := by
    rw [Q.mul_sq]
    have a3 : gT p.sq (rotM p) * crQ p = p.sq := a1
    have b3 : gT q.sq (rotM q) * crQ q = q.sq := b1
    rw [mm4, a3, b3]
  have x2 : (((rotM p).ov (gT p.sq (rotM p))).mul ((rotM q).ov (gT q.sq (rotM q)))).sm (gT p.sq (rotM p) * gT q.sq (rotM q)) = rotM (p.mul q) := by
    rw [rot_mul]
    conv => rhs; rw [← a2, ← b2]
    rw [M3.sm_mul, M3.mul_sm, M3.sm_sm]
  rw [x1, x2] at e
  have h := (lowT_back k0 (((rotM p).ov (gT p.sq (rotM p))).mul ((rotM q).ov (gT q.sq (rotM q))))).1
  rw [← e] at h
  exact ⟨_, (Int.mul_comm _ _).trans h |>.symm⟩
theorem crP_dvd : ∀ {l : List Q}, (∀ r ∈ l, ¬ r = ⟨0, 0, 0, 0⟩) → crQ (chQ l) ∣ crP l
  | [], _ => by
    have e : crQ ⟨1, 0, 0, 0⟩ = 1 := by decide
    show crQ ⟨1, 0, 0, 0⟩ ∣ 1
    rw [e]
    exact Int.dvd_refl _
  | r :: l, h => by
    rw [chQ_cons]
    have h1 := cr_mul_dvd (chQ_ne fun x hx => h x (List.mem_cons_of_mem _ hx)) (h r (List.mem_cons_self ..))
    have h2 := crP_dvd (l := l) fun x hx => h x (List.mem_cons_of_mem _ hx)
    show _ ∣ crQ r * crP l
    rw [Int.mul_comm (crQ r)]
    exact Int.dvd_trans h1 (Int.mul_dvd_mul_right _ h2)
theorem whole_step {r : Q} (h : ¬ r = ⟨0, 0, 0, 0⟩) (z : V3) : (rotM r).app (z.sm (crQ r)) = (((rotM r).ov (gT r.sq (rotM r))).app z).sm r.sq := by
  obtain ⟨a1, a2⟩ := lowT_back (sq_pos h) (rotM r)
  have a3 : gT r.sq (rotM r) * crQ r = r.sq := a1
  conv => lhs; rw [← a2]
  rw [M3.sm_app, M3.app_sm, V3.sm_sm, a3]
theorem whole_place {r : Q} (h : ¬ r = ⟨0, 0, 0, 0⟩) (z : V3) : plQ r (z.sm (crQ r)) = .tup [.int 1, (((rotM r).ov (gT r.sq (rotM r))).app z).tp] := by
  unfold plQ
  rw [whole_step h]
  have := lowV_scl (k := r.sq) (n := 1) (sq_pos h) (by decide) (((rotM r).ov (gT r.sq (rotM r))).app z)
  rw [Int.mul_one] at this
  rw [this, lowV_one]
theorem whole_st {r : Q} (h : ¬ r = ⟨0, 0, 0, 0⟩) (z : V3) : stB r (z.sm (crQ r)) = true := by
  unfold stB
  rw [whole_step h]
  simp only [V3.sm, Int.mul_emod_right, decide_true, Bool.and_self]
theorem bar_back {q : Q} (v : V3) : (rotM q.bar).app ((rotM q).app v) = v.sm (q.sq * q.sq) := by
  have e : q.bar.mul q = (⟨1, 0, 0, 0⟩ : Q).smul q.sq := by apply Q.ext' <;> simp only [Q.bar, Q.mul, Q.smul, Q.sq] <;> grind
  rw [← M3.app_mul, ← rot_mul, e, rot_smul, M3.sm_app]
  have e2 : (rotM ⟨1, 0, 0, 0⟩).app v = v := by apply V3.ext' <;> simp only [rotM, M3.app, V3.dot] <;> omega
  rw [e2]
theorem along_loop : ∀ (l : List Q) (n0 : Int) (v : V3) (d0 : D) (s3 s4 : Slot) (k m : Nat), (∀ r ∈ l, QC r 70 ∧ ¬ r = ⟨0, 0, 0, 0⟩) → VC v k → SzC n0 m → k + 160 * l.length ≤ 9000 → m + 150 * l.length ≤ 9000 →
    ∃ (n : Int) (x : V3) (s3' s4' : Slot), forGo (.nm 3) w__law_along_0 [.sh d0, .sh v.tp, .sh (.int n0), s3, s4] (l.map trn) = some (.nx [.sh d0, .sh x.tp, .sh (.int (n0 * n)), s3', s4']) ∧ 0 < n ∧ x.sm (chQ l).sq = ((rotM (chQ l)).app v).sm n ∧ VC x (k + 160 * l.length) ∧ SzC (n0 * n) (m + 150 * l.length)
  | [], n0, v, d0, s3, s4, k, m, _, hv, hn, _, _ => ⟨1, v, s3, s4, by rw [Int.mul_one]; rfl, by decide, by
      have e : chQ [] = ⟨1, 0, 0, 0⟩ := rfl
      rw [e]
      apply V3.ext' <;> simp only [V3.sm, rotM, M3.app, V3.dot, Q.sq] <;> omega, hv, by rw [Int.mul_one]; exact hn⟩
  | r :: l, n0, v, d0, s3, s4, k, m, hr, hv, hn, hk, hm => by
    obtain ⟨h1, h2⟩ := hr r (List.mem_cons_self ..)
    haveI := h1
    haveI := hv
    haveI := hn
    rw [List.length_cons] at hk hm
    have hp := sq_pos h2
    obtain ⟨a1, a2⟩ := lowV_back hp ((rotM r).app v)
    have a0 := lowV_pos hp ((rotM r).app v)
    haveI : Ps (gV r.sq ((rotM r).app v)) := ⟨gV_pos _ hp⟩
    have y1 : VC (((rotM r).app v).ov (gV r.sq ((rotM r).app v))) (k + 160) := VC.mono inferInstance (by omega)
    have y2 : SzC (r.sq / gV r.sq ((rotM r).app v)) 143 := inferInstance
    have p1 := place_trn (q := r) (v := v) (by decide) (show k ≤ 10000 by omega) h2
    have g0 := gV_pos ((rotM r).app v) hp
    have e : plQ r v = .tup [.int (r.sq / gV r.sq ((rotM r).app v)), (((rotM r).app v).ov (gV r.sq ((rotM r).app v))).tp] := rfl
    rw [e] at p1
    generalize ((rotM r).app v).ov (gV r.sq ((rotM r).app v)) = w at *
    generalize r.sq / gV r.sq ((rotM r).app v) = a at *
    generalize gV r.sq ((rotM r).app v) = g at *
    haveI := y1
    haveI := y2
    have y3 : SzC (n0 * a) (m + 150) := SzC.mono inferInstance (by omega)
    obtain ⟨n, x, s3', s4', q1, q2, q3, q4, q5⟩ := along_loop l (n0 * a) w d0 (.sh (trn r)) (.sh (.tup [.int a, w.tp])) (k + 160) (m + 150) (fun x hx => hr x (List.mem_cons_of_mem _ hx)) y1 y3 (by omega) (by omega)
    refine ⟨a * n, x, s3', s4', ?_, Int.mul_pos a0 q2, ?_, q4.mono (by rw [List.length_cons]; omega), ?_⟩
    · rw [List.map_cons, for_c, tgNm, ← Int.mul_assoc, ← q1, fset_s, lset_s, lset_s, lset_s, lset_z]
      have e2 : w__law_along_0 [.sh d0, .sh v.tp, .sh (.int n0), .sh (trn r), s4] = some (.nx [.sh d0, .sh w.tp, .sh (.int (n0 * a)), .sh (trn r), .sh (.tup [.int a, w.tp])]) := by
        unfold w__law_along_0
        wp_walk using mR_place, p1, flat_trn
      rw [e2]
      rfl
    · rw [chQ_cons, Q.mul_sq, rot_mul, M3.app_mul, ← a2, M3.app_sm, V3.sm_sm, ← a1]
      have e3 : x.sm ((chQ l).sq * (g * a)) = (x.sm (chQ l).sq).sm (g * a) := by
        rw [V3.sm_sm]
        congr 1
        exact Int.mul_comm _ _
      rw [e3, q3, V3.sm_sm]
      congr 1
      rw [Int.mul_assoc, Int.mul_comm g]
    · rw [← Int.mul_assoc]
      exact q5.mono (by rw [List.length_cons]; omega)
theorem along_e (l : List Q) (v : V3) (k : Nat) (hr : ∀ r ∈ l, QC r 70 ∧ ¬ r = ⟨0, 0, 0, 0⟩) [hv : VC v k] (hk : k + 160 * l.length ≤ 9000) (hl : l.length ≤ 12) :
    ∃ (n : Int) (x : V3), f__law_along [.lst (l.map trn), v.tp] = some (.v (.tup [.int n, x.tp])) ∧ 0 < n ∧ x.sm (chQ l).sq = ((rotM (chQ l)).app v).sm n ∧ VC x (k + 160 * l.length) ∧ SzC n (1 + 150 * l.length) := by
  obtain ⟨n, x, s3, s4, h1, h2, h3, h4, h5⟩ := along_loop l 1 v (.lst (l.map trn)) .un .un k 1 hr hv ⟨by decide⟩ hk (by omega)
  rw [Int.one_mul] at h1 h5
  refine ⟨n, x, ?_, h2, h3, h4, h5⟩
  unfold f__law_along b__law_along
  wp_walk using h1
theorem way_loop : ∀ (l : List Q) (w : V3) (d0 : D) (s2 : Slot) (k : Nat), (∀ r ∈ l, QC r 70 ∧ ¬ r = ⟨0, 0, 0, 0⟩) → VC w k → k + 160 * l.length ≤ 5000 → l.length ≤ 12 →
    ∃ (x : V3) (s2' : Slot), forGo (.nm 2) w__law_whole_way_0 [.sh d0, .sh (w.sm (crP l)).tp, s2] (l.map trn) = some (.nx [.sh d0, .sh x.tp, s2'])
  | [], w, d0, s2, k, _, _, _, _ => ⟨_, s2, rfl⟩
  | r :: l, w, d0, s2, k, hr, hv, hk, hl => by
    obtain ⟨h1, h2⟩ := hr r (List.mem_cons_self ..)
    have hr' := fun x hx => hr x (List.mem_cons_of_mem _ hx)
    haveI := h1
    haveI := hv
    rw [List.length_cons] at hk hl
    haveI := cr_sz h2
    haveI := crP_sz hr'
    haveI : Ps (gT r.sq (rotM r)) := ⟨gT_pos _ (sq_pos h2)⟩
    have e0 : w.sm (crP (r :: l)) = (w.sm (crP l)).sm (crQ r) := (V3.sm_sm _ _ _).symm
    have y0 : VC ((w.sm (crP l)).sm (crQ r)) (70 + 70 + 3 + (1 + 143 * l.length + k)) := inferInstance
    have p1 := place_trn (q := r) (v := (w.sm (crP l)).sm (crQ r)) (by decide) (show 70 + 70 + 3 + (1 + 143 * l.length + k) ≤ 10000 by omega) h2
    have t1 := stays_e (q := r) (v := (w.sm (crP l)).sm (crQ r)) (by decide) (show 70 + 70 + 3 + (1 + 143 * l.length + k) ≤ 10000 by omega) h2
    rw [whole_place h2] at p1
    rw [whole_st h2] at t1
    have y1 : VC (((rotM r).ov (gT r.sq (rotM r))).app w) (k + 160) := VC.mono (inferInstance : VC (((rotM r).ov (gT r.sq (rotM r))).app w) (70 + 70 + 10 + k + 2)) (by omega)
    rw [M3.app_sm] at p1
    generalize ((rotM r).ov (gT r.sq (rotM r))).app w = u at *
    obtain ⟨x, s2', q1⟩ := way_loop l u d0 (.sh (trn r)) (k + 160) hr' y1 (by omega) (by omega)
    refine ⟨x, s2', ?_⟩
    rw [List.map_cons, for_c, tgNm, fset_s, lset_s, lset_s, lset_z, e0, ← q1]
    have e2 : w__law_whole_way_0 [.sh d0, .sh ((w.sm (crP l)).sm (crQ r)).tp, .sh (trn r)] = some (.nx [.sh d0, .sh (u.sm (crP l)).tp, .sh (trn r)]) := by
      unfold w__law_whole_way_0
      wp_walk using mR_place, t1, p1, flat_trn
    rw [e2]
    rfl
theorem way_e (l : List Q) (w : V3) (k : Nat) (hr : ∀ r ∈ l, QC r 70 ∧ ¬ r = ⟨0, 0, 0, 0⟩) [hv : VC w k] (hk : k + 160 * l.length ≤ 5000) (hl : l.length ≤ 12) : f__law_whole_way [.lst (l.map trn), (w.sm (crP l)).tp] = some (.v (.bl true)) := by
  obtain ⟨x, s2, h⟩ := way_loop l w (.lst (l.map trn)) .un k hr hv hk hl
  unfold f__law_whole_way b__law_whole_way
  wp_walk using h
theorem nz_fin (a b c d i x : Int) (ha : SzC a 70) (hb : SzC b 70) (hc : SzC c 70) (hd : SzC d 70) (h0 : 0 ≤ i) (h1 : i < 4) (hx : x = 1 ∨ x = -1) :
    QC ⟨if ([a, b, c, d].any fun x => x != 0) = false then (if i = 0 then x else a) else a, if ([a, b, c, d].any fun x => x != 0) = false then (if i = 1 then x else b) else b, if ([a, b, c, d].any fun x => x != 0) = false then (if i = 2 then x else c) else c, if ([a, b, c, d].any fun x => x != 0) = false then (if i = 3 then x else d) else d⟩ 70 ∧
    ¬ (⟨if ([a, b, c, d].any fun x => x != 0) = false then (if i = 0 then x else a) else a, if ([a, b, c, d].any fun x => x != 0) = false then (if i = 1 then x else b) else b, if ([a, b, c, d].any fun x => x != 0) = false then (if i = 2 then x else c) else c, if ([a, b, c, d].any fun x => x != 0) = false then (if i = 3 then x else d) else d⟩ : Q) = ⟨0, 0, 0, 0⟩ := by
  have hx' : SzC x 70 := ⟨by omega⟩
  refine ⟨⟨?_, ?_, ?_, ?_⟩, fun e => ?_⟩
  · show SzC (ite _ (ite _ _ _) _) 70
    split
    · split <;> assumption
    · assumption
  · show SzC (ite _ (ite _ _ _) _) 70
    split
    · split <;> assumption
    · assumption
  · show SzC (ite _ (ite _ _ _) _) 70
    split
    · split <;> assumption
    · assumption
  · show SzC (ite _ (ite _ _ _) _) 70
    split
    · split <;> assumption
    · assumption
  · have e1 := congrArg Q.a e
    have e2 := congrArg Q.b e
    have e3 := congrArg Q.c e
    have e4 := congrArg Q.d e
    simp only at e1 e2 e3 e4
    by_cases hc : ([a, b, c, d].any fun x => x != 0) = false
    · simp only [hc, if_true] at e1 e2 e3 e4
      rcases (show i = 0 ∨ i = 1 ∨ i = 2 ∨ i = 3 by omega) with rfl | rfl | rfl | rfl
      · rw [if_pos rfl] at e1; omega
      · rw [if_pos rfl] at e2; omega
      · rw [if_pos rfl] at e3; omega
      · rw [if_pos rfl] at e4; omega
    · rw [if_neg hc] at e1 e2 e3 e4
      apply hc
      rw [e1, e2, e3, e4]
      rfl
theorem row_e (s : Scr) {k : Int} {n : Nat} [hs : SzC k n] (h : n ≤ 60) : ∃ q : Q, f__law_row [.scr (s.ns.map .int), .int k] = some (.v q.dt) ∧ QC q 70 ∧ ¬ q = ⟨0, 0, 0, 0⟩ := by
  haveI : SzC k 60 := hs.mono h
  have i0 := Int.emod_nonneg (cell s k / 61) (b := 4) (by decide)
  have i1 := Int.emod_lt_of_pos (cell s k / 61) (b := 4) (by decide)
  have c : ∀ x : Int, SzC (x % 61 - 30) 70 := fun x => ⟨by omega⟩
  unfold f__law_row b__law_row e__law_row_0
  wp_walk using cell_e, ixN_pos, set4, mk_dt
  exact ⟨_, rfl, nz_fin _ _ _ _ _ _ (c _) (c _) (c _) (c _) i0 i1 (.inl rfl)⟩
def numQ (l : List Q) : Q := match l with
  | [a] => a
  | _ => toldQ (chQ l)
theorem numQ_snoc {l : List Q} (h : l ≠ []) (r : Q) : numQ (l ++ [r]) = toldQ (chQ (l ++ [r])) := by
  match l, h with
  | a :: [], _ => rfl
  | a :: b :: l, _ => rfl
theorem numQ_told : ∀ {l : List Q}, l ≠ [] → (∀ r ∈ l, QC r 70 ∧ ¬ r = ⟨0, 0, 0, 0⟩) → toldQ (numQ l) = toldQ (chQ l) ∧ ¬ numQ l = ⟨0, 0, 0, 0⟩ ∧ QC (numQ l) (70 + 73 * l.length)
  | [], h, _ => absurd rfl h
  | [a], _, h => by
    obtain ⟨h1, h2⟩ := h a (List.mem_cons_self ..)
    exact ⟨by rw [show chQ [a] = a from mul_one' a]; rfl, h2, h1.mono (by omega)⟩
  | a :: b :: l, _, h => by
    have h2 := chQ_ne (l := a :: b :: l) fun r hr => (h r hr).2
    have h3 := chQ_sz (l := a :: b :: l) fun r hr => (h r hr).1
    exact ⟨told_told h2, told_ne h2, QC.mono (told_qc (h := h3)) (by omega)⟩
theorem turns_loop (s : Scr) (l : List Q) (r0 : Q) (ts : List Q) (hl : l = r0 :: ts) (v : V3) (hr : ∀ r ∈ l, QC r 70 ∧ ¬ r = ⟨0, 0, 0, 0⟩) (hn : l.length ≤ 12) : forGo (.nm 8) w_law_0 [.sh s.d, .sh (.lst (l.map Q.dt)), .sh v.tp, .sh (.lst (l.map trn)), .sh (trn r0), .sh (tabQ r0), .sh r0.dt, .sh (.int (crQ r0)), .un, .un, .un, .un, .un, .un, .un] (rgD 1 ts.length) =
    some (.nx [.sh s.d, .sh (.lst (l.map Q.dt)), .sh v.tp, .sh (.lst (l.map trn)), .sh (trn (chQ l)), .sh (tabQ (chQ l)), .sh (numQ l).dt, .sh (.int (crP l)), lv 1 ts.length, .un, .un, .un, .un, .un, .un]) := by
  have h := for_rg (i := 8) (body := w_law_0) ts.length 1 (fun k => [.sh s.d, .sh (.lst (l.map Q.dt)), .sh v.tp, .sh (.lst (l.map trn)), .sh (trn (chQ (l.take (k + 1)))), .sh (tabQ (chQ (l.take (k + 1)))), .sh (numQ (l.take (k + 1))).dt, .sh (.int (crP (l.take (k + 1)))), lv 1 k, .un, .un, .un, .un, .un, .un]) fun k hk => by
    have hk' : k + 1 < l.length := by rw [hl, List.length_cons]; omega
    have e1 : l.take (k + 1 + 1) = l.take (k + 1) ++ [l[k + 1]] := List.take_succ_eq_append_getElem hk'
    have hm : l[k + 1] ∈ l := List.getElem_mem hk'
    have at1 : atI (l.map trn) (1 + (k : Int)) = some (trn l[k + 1]) := by
      rw [show (1 + (k : Int)) = ((k + 1 : Nat) : Int) by omega, atI_nat, List.getElem?_map, List.getElem?_eq_getElem hk']
      rfl
    have at2 : atI (l.map Q.dt) (1 + (k : Int)) = some (Q.dt l[k + 1]) := by
      rw [show (1 + (k : Int)) = ((k + 1 : Nat) : Int) by omega, atI_nat, List.getElem?_map, List.getElem?_eq_getElem hk']
      rfl
    have hne : l.take (k + 1) ≠ [] := by rw [hl]; exact List.cons_ne_nil _ _
    have hlen : (l.take (k + 1)).length = k + 1 := by rw [List.length_take]; omega
    have ht : ∀ r ∈ l.take (k + 1), QC r 70 ∧ ¬ r = ⟨0, 0, 0, 0⟩ := fun r hh => hr r (List.mem_of_mem_take hh)
    rw [e1, numQ_snoc hne, chQ_snoc, crP_snoc]
    obtain ⟨t1, t2, t3⟩ := numQ_told hne ht
    have c1 := chQ_sz fun r hh => (ht r hh).1
    have c2 := chQ_ne fun r hh => (ht r hh).2
    have c3 := crP_sz ht
    obtain ⟨r1, r2⟩ := hr _ hm
    rw [hlen] at t3 c1 c3
    generalize l.take (k + 1) = d at *
    generalize l[k + 1] = r at *
    haveI := r1
    haveI := cr_sz r2
    haveI := t3.mono (show _ ≤ 1000 by omega)
    haveI := c1.mono (show _ ≤ 1000 by omega)
    haveI := c3.mono (show _ ≤ 4000 by omega)
    have b1 := behind_trn (p := r) (q := chQ d) (by decide) (by decide) r2 c2
    have b2 := behind_tab (p := chQ d) (q := r) (by decide) (by decide) c2 r2
    have b3 := table_trn (q := r) (by decide) r2
    have b4 := lprod_e (p := r) (q := numQ d) (by decide)
    have b5 := ltold_e (q := r.mul (numQ d)) (by decide) (mul_ne r2 t2)
    have e5 : toldQ (r.mul (numQ d)) = toldQ (r.mul (chQ d)) := by rw [← told_mul r2 t2, ← told_mul r2 c2, t1]
    rw [e5] at b5
    have b6 := corner_e (q := r) (by decide) r2
    unfold w_law_0
    wp_walk using at1, at2, mR_behind, mR_table, b1, b2, b3, b4, b5, b6, flat_trn, lv_s0
  have e0 : l.take (0 + 1) = [r0] := by rw [hl]; rfl
  have en : l.take (ts.length + 1) = l := by rw [hl, ← List.length_cons (a := r0), List.take_length]
  rw [e0, en] at h
  have f1 : chQ [r0] = r0 := mul_one' r0
  have f2 : crP [r0] = crQ r0 := Int.mul_one _
  rw [f1, f2] at h
  exact h
theorem rows_c (s : Scr) : ∃ f : Nat → Q, ∀ k : Nat, k < 12 → f__law_row [.scr (s.ns.map .int), .int (5 + 4 * (k : Int))] = some (.v (f k).dt) ∧ QC (f k) 70 ∧ ¬ f k = ⟨0, 0, 0, 0⟩ := by
  have H : ∀ k : Nat, ∃ q : Q, k < 12 → f__law_row [.scr (s.ns.map .int), .int (5 + 4 * (k : Int))] = some (.v q.dt) ∧ QC q 70 ∧ ¬ q = ⟨0, 0, 0, 0⟩ := fun k => by
    by_cases h : k < 12
    · haveI : SzC (5 + 4 * (k : Int)) 20 := ⟨by omega⟩
      obtain ⟨q, hq⟩ := row_e s (k := 5 + 4 * (k : Int)) (n := 20) (by decide)
      exact ⟨q, fun _ => hq⟩
    · exact ⟨⟨0, 0, 0, 0⟩, fun h' => absurd h' h⟩
  exact ⟨fun k => Classical.choose (H k), fun k => Classical.choose_spec (H k)⟩
theorem key6 (n g a : Int) : n * (g * a * (g * a)) = g * (g * a) * (a * n) := by grind
theorem law_holds : Keeps f_law := keeps_of fun s => by
  obtain ⟨f, hf⟩ := rows_c s
  have m0 := Int.emod_nonneg (cell s 0) (b := 12) (by decide)
  have m1 := Int.emod_lt_of_pos (cell s 0) (b := 12) (by decide)
  have hN1 : 0 < (1 + cell s 0 % 12).toNat := by omega
  have hN2 : (1 + cell s 0 % 12).toNat ≤ 12 := by omega
  have hN3 : (1 + cell s 0 % 12).toNat ≤ 16777216 := by omega
  have hv : VC (spotV s 1) 70 := inferInstance
  have hspot := spot_e s (k := 1) (n := 1) (by decide)
  generalize hv' : spotV s 1 = v at *
  have hc : lcGo (.nm 8) tYes' e_law_0 [.sh s.d, .un, .un, .un, .un, .un, .un, .un, .un, .un, .un, .un, .un, .un, .un] (rgD 0 (1 + cell s 0 % 12).toNat) = some (((List.range (1 + cell s 0 % 12).toNat).map f).map Q.dt) := by
    rw [List.map_map]
    refine lc_map _ fun i hi => ⟨_, tgNm _ _ _, Or.inl ?_⟩
    have hi' := List.mem_range.1 hi
    haveI : SzC (i : Int) 5 := ⟨by omega⟩
    have e := (hf i (by omega)).1
    unfold e_law_0
    wp_walk using Int.zero_add, e
    rfl
  have hlen : ((List.range (1 + cell s 0 % 12).toNat).map f).length = (1 + cell s 0 % 12).toNat := by rw [List.length_map, List.length_range]
  have hr : ∀ r ∈ (List.range (1 + cell s 0 % 12).toNat).map f, QC r 70 ∧ ¬ r = ⟨0, 0, 0, 0⟩ := fun r h => by
    obtain ⟨i, hi, rfl⟩ := List.mem_map.1 h
    have := List.mem_range.1 hi
    exact (hf i (by omega)).2
  generalize (List.range (1 + cell s 0 % 12).toNat).map f = l at *
  have hle : l.length ≤ 16777216 := by omega
  have hl12 : l.length ≤ 12 := by omega
  obtain ⟨r0, ts, hl⟩ : ∃ r0 ts, l = r0 :: ts := by
    cases hl : l with
    | nil => rw [hl, List.length_nil] at hlen; omega
    | cons a b => exact ⟨a, b, rfl⟩
  have hll : l.length = ts.length + 1 := by rw [hl, List.length_cons]
  have ht : lcGo (.nm 12) tYes' e_law_1 [.sh s.d, .own (.lst (l.map Q.dt)), .sh v.tp, .un, .un, .un, .un, .un, .un, .un, .un, .un, .un, .un, .un] (l.map Q.dt) = some (l.map trn) := by
    refine lc_map _ fun q hq => ⟨_, tgNm _ _ _, Or.inl ?_⟩
    obtain ⟨q1, q2⟩ := hr q hq
    have := ins_trn (q := q) (by decide) q2
    unfold e_law_1
    wp_walk using this
  have hloop := turns_loop s l r0 ts hl v hr hl12
  obtain ⟨y0, z0⟩ := hr r0 (by rw [hl]; exact List.mem_cons_self)
  have hne : l ≠ [] := by rw [hl]; exact List.cons_ne_nil _ _
  obtain ⟨u1, u2, u3⟩ := numQ_told hne hr
  have nR := chQ_ne fun r h => (hr r h).2
  have sR := (chQ_sz fun r h => (hr r h).1).mono (show _ ≤ 900 by omega)
  have cR := (crP_sz hr).mono (show _ ≤ 2000 by omega)
  have cd := crP_dvd fun r h => (hr r h).2
  have cp := cr_pos nR
  have nu := u3.mono (show _ ≤ 1000 by omega)
  haveI := sR
  haveI := cR
  haveI := nu
  have ctl := ltold_e (q := numQ l) (by decide) u2
  rw [u1] at ctl
  have bt := table_trn (q := chQ l) (by decide) nR
  have bc := corner_e (q := chQ l) (by decide) nR
  have b0 := table_trn (q := r0) (by decide) z0
  have c0 := corner_e (q := r0) (by decide) z0
  have bp := place_trn (q := chQ l) (v := v) (by decide) (by decide) nR
  have wp := sq_pos nR
  obtain ⟨n, x, al, n0, alx, xs, ns⟩ := along_e l v 70 hr (by omega) hl12
  haveI := xs.mono (show _ ≤ 3000 by omega)
  haveI := ns.mono (show _ ≤ 3000 by omega)
  have lp := (lplace_low (n := (chQ l).sq) (k := n) (v := (rotM (chQ l)).app v) (w := x) wp n0 alx.symm (by decide) (by decide) (by decide) (by decide)).1
  have lp : f__law_place [plQ (chQ l) v, .int n, x.tp] = some (.v (.bl true)) := lp
  have wy : f__law_whole_way [.lst (l.map trn), V3.tp ⟨crP l * v.x, crP l * v.y, crP l * v.z⟩] = some (.v (.bl true)) := way_e l v 70 hr (by omega) hl12
  -- the way back
  have hb : ∀ r ∈ l.reverse.map Q.bar, QC r 70 ∧ ¬ r = ⟨0, 0, 0, 0⟩ := fun r h => by
    obtain ⟨q, hq, rfl⟩ := List.mem_map.1 h
    obtain ⟨q1, q2⟩ := hr q (List.mem_reverse.1 hq)
    exact ⟨inferInstance, bar_ne' q2⟩
  obtain ⟨a1, a2⟩ := lowV_back wp ((rotM (chQ l)).app v)
  have a0 := lowV_pos wp ((rotM (chQ l)).app v)
  have g0 := gV_pos ((rotM (chQ l)).app v) wp
  haveI : Ps (gV (chQ l).sq ((rotM (chQ l)).app v)) := ⟨g0⟩
  have eP : plQ (chQ l) v = .tup [.int ((chQ l).sq / gV (chQ l).sq ((rotM (chQ l)).app v)), (((rotM (chQ l)).app v).ov (gV (chQ l).sq ((rotM (chQ l)).app v))).tp] := rfl
  have y1 : VC (((rotM (chQ l)).app v).ov (gV (chQ l).sq ((rotM (chQ l)).app v))) 2000 := VC.mono inferInstance (by decide)
  have y2 : SzC ((chQ l).sq / gV (chQ l).sq ((rotM (chQ l)).app v)) 2000 := SzC.mono inferInstance (by decide)
  rw [eP] at bp lp
  generalize ((rotM (chQ l)).app v).ov (gV (chQ l).sq ((rotM (chQ l)).app v)) = w at *
  generalize (chQ l).sq / gV (chQ l).sq ((rotM (chQ l)).app v) = a at *
  generalize gV (chQ l).sq ((rotM (chQ l)).app v) = g at *
  haveI := y1
  haveI := y2
  obtain ⟨n', x', al', n0', alx', xs', ns'⟩ := along_e (l.reverse.map Q.bar) w 2000 hb (by rw [List.length_map, List.length_reverse]; omega) (by rw [List.length_map, List.length_reverse]; omega)
  rw [List.length_map, List.length_reverse] at xs' ns'
  haveI := xs'.mono (show _ ≤ 9000 by omega)
  haveI := ns'.mono (show _ ≤ 3000 by omega)
  rw [chQ_bar, bar_sq] at alx'
  have key : x' = v.sm (a * n') := by
    have e1 : (x'.sm (chQ l).sq).sm g = ((rotM (chQ l).bar).app (w.sm g)).sm n' := by
      rw [alx', V3.sm_sm, Int.mul_comm, ← V3.sm_sm, ← M3.app_sm]
    rw [a2, bar_back, V3.sm_sm, V3.sm_sm] at e1
    refine V3.sm_inj (Int.mul_pos g0 wp) (e1.trans ?_)
    rw [V3.sm_sm, ← a1, key6]
  have k1 : x'.x = v.x * a * n' := by rw [key]; simp only [V3.sm]; grind
  have k2 : x'.y = v.y * a * n' := by rw [key]; simp only [V3.sm]; grind
  have k3 : x'.z = v.z * a * n' := by rw [key]; simp only [V3.sm]; grind
  have hm0 : atI (l.map trn) 0 = some (trn r0) := by rw [hl, List.map_cons]; exact atI_nat _ 0
  have hm1 : atI (l.map Q.dt) 0 = some r0.dt := by rw [hl, List.map_cons]; exact atI_nat _ 0
  have cdm : crP l % crQ (chQ l) = 0 := Int.emod_eq_zero_of_dvd cd
  haveI : Ps (crQ (chQ l)) := ⟨cp⟩
  have hrg2 : rg2 [.int 1, .int (l.length : Int)] = some (.ok (rgD 1 ts.length) false) := by
    haveI : SzC (l.length : Int) 10 := ⟨by omega⟩
    have := rg2_i (i := 1) (j := (l.length : Int)) (m := 1) (n := 10) (by decide) (by decide)
    rw [this, show ((l.length : Int) - 1).toNat = ts.length by omega]
  have hfl : D.flats (l.map trn) = false := by rw [hl, List.map_cons, flats_c, flat_trn]; rfl
  have hbk : lcGo (.nm 13) tYes' e_law_3 [.sh s.d, .sh (.lst (l.map Q.dt)), .sh v.tp, .sh (.lst (l.map trn)), .sh (trn (chQ l)), .sh (tabQ (chQ l)), .sh (numQ l).dt, .sh (.int (crP l)), lv 1 ts.length, .sh (.int n), .sh x.tp, .un, .un, .un, .un] (l.reverse.map trn) = some ((l.reverse.map Q.bar).map trn) := by
    rw [List.map_map]
    refine lc_map _ fun q hq => ⟨_, tgNm _ _ _, Or.inl ?_⟩
    obtain ⟨q1, q2⟩ := hr q (List.mem_reverse.1 hq)
    have := back_trn (q := q) (by decide) q2
    unfold e_law_3
    wp_walk using mR_back, this
    rfl
  have hle2 : l.reverse.length ≤ 16777216 := by rw [List.length_reverse]; exact hle
  have hrev : (l.map trn).reverse = l.reverse.map trn := (List.map_reverse ..).symm
  unfold f_law b_law e_law_2 e_law_4 e_law_5
  wp_walk using hspot, cell_e, hc, hle, hN3, rgD_len, List.length_map, ht, hm0, hm1, mR_table, mR_number, mR_place, b0, c0, hrg2, hloop, hfl, flat_trn, flats_dt, ctl, bt, bc, eq_tabQ, ne_tabQ, cdm, al, bp, lp, wy, mk_tp, V3.sm, number_trn, rv1_l, hrev, hle2, hbk, al', k1, k2, k3, mR_back
end HD

set_option Elab.async false
set_option linter.all false
set_option maxRecDepth 100000
set_option maxHeartbeats 0
namespace HD
open PySem PySem.Spec PyProof.Rows L2
def top (i : Nat) : Stmt := PySem.Challenge.pw_spaceturns_k60_whole_chains_of_turns.main.body.getD i (.Pass ⟨0, 0, 0, 0⟩)
abbrev s_divisor_of : Stmt := top 7
abbrev s_lowest : Stmt := top 8
abbrev s_table_of : Stmt := top 11
abbrev s_Turn_table : Stmt := inCls (top 17) 2
abbrev s__law_cell : Stmt := top 22
abbrev s__law_number : Stmt := top 25
abbrev s__law_spot : Stmt := top 29
abbrev s_as_told : Stmt := top 14
abbrev s_Turn___init__ : Stmt := inCls (top 17) 0
abbrev s_corner_number : Stmt := top 20
abbrev s_plain_product : Stmt := top 5
abbrev s_Turn_number : Stmt := inCls (top 17) 1
abbrev s_Turn_behind : Stmt := inCls (top 17) 4
abbrev s_summed : Stmt := top 9
abbrev s_place_by : Stmt := top 10
abbrev s_Deed_place : Stmt := inCls (top 15) 1
abbrev s__law_along : Stmt := top 32
abbrev s__law_row : Stmt := top 31
abbrev s_behind : Stmt := top 12
abbrev s__law_divisor : Stmt := top 26
abbrev s__law_told : Stmt := top 30
abbrev s__law_whole : Stmt := top 23
abbrev s__law_tuple : Stmt := top 24
abbrev s__law_place : Stmt := top 28
abbrev s_stays : Stmt := top 19
abbrev s__law_whole_way : Stmt := top 33
abbrev s_Turn_back : Stmt := inCls (top 17) 3
abbrev s__law_product : Stmt := top 27
abbrev s_law : Stmt := top 34
section
variable {P : Program} {w : World} {K : PySem.W.Frag} {mg : Str → Option Value} {base : Heap} {f : Addr} {fd : FuncData}
abbrev n_divisor_of : List Str := ["numbers", "found", "other"]
theorem sc_divisor_of : FnScope n_divisor_of ["numbers"] (defScope s_divisor_of) := ⟨rfl, rfl, rfl, by decide +kernel, rfl, by decide +kernel, by decide +kernel⟩
theorem ok_divisor_of (F : FunD K "divisor_of" "divisor_of" (defArgs s_divisor_of) (defBody s_divisor_of) (defScope s_divisor_of) [] [] f fd) (g0 : Gs mg) : FnOk P w K mg base (L2.CX P w) 2 f fd ["numbers"] (spD K f_divisor_of) :=
  fn_ok (n := 3) (np := 1) (F := b_divisor_of) F sc_divisor_of rfl rfl fun cdv A outer s H E hr => by
    have tk := takes_of (X := cxOf (L2.CX P w) P w K mg base n_divisor_of "divisor_of" (defScope s_divisor_of) f cdv A outer s H E) rfl rfl rfl rfl
    unfold b_divisor_of w_divisor_of_1 w_divisor_of_0
    exact (pssd_cons (psd_set (i := 1) sc_divisor_of.nd rfl (by first | exact Or.inl rfl | exact Or.inr rfl) pd_int)
    (pssd_cons (psd_for (passes_of rfl) rfl (pid_seq (pd_var 0)) (pg_name (i := 2) sc_divisor_of.nd rfl (by first | exact Or.inl rfl | exact Or.inr rfl))
    (pssd_one (psd_while (passes_of rfl) (ptd_cmp (opd_ne hr.units) (pd_var 2) pd_int (nomark _))
    (pssd_one (psd_par (i := 1) (j := 2) rfl sc_divisor_of.nd rfl rfl (by decide) rfl rfl (pad_cons (pd_var 2) (pad_cons (pd_op opd_mod (pd_var 1) (pd_var 2)) pad_nil)) rfl)))))
    (pssd_one (psd_ret (pd_cb cd_abs rfl (g0.at 9) bt_abs (pad_cons (pd_var 1) pad_nil))))))
abbrev n_lowest : List Str := ["table", "n", "rows", "by", "row", "number"]
theorem sc_lowest : FnScope n_lowest ["table"] (defScope s_lowest) := ⟨rfl, rfl, rfl, by decide +kernel, rfl, by decide +kernel, by decide +kernel⟩
theorem ok_lowest (F : FunD K "lowest" "lowest" (defArgs s_lowest) (defBody s_lowest) (defScope s_lowest) [] [] f fd) (g0 : Gs mg) (G_divisor_of : Dn P w K mg base "divisor_of" 2 f_divisor_of) : FnOk P w K mg base (L2.CX P w) 4 f fd ["table"] (spD K f_lowest) :=
  fn_ok (n := 6) (np := 1) (F := b_lowest) F sc_lowest rfl rfl fun cdv A outer s H E hr => by
    have tk := takes_of (X := cxOf (L2.CX P w) P w K mg base n_lowest "lowest" (defScope s_lowest) f cdv A outer s H E) rfl rfl rfl rfl
    unfold b_lowest e_lowest_1 e_lowest_0
    exact (pssd_cons (psd_setT (is := [1, 2]) (pg_tup rfl (pgs_cons (pg_name (i := 1) sc_lowest.nd rfl (by first | exact Or.inl rfl | exact Or.inr rfl)) (pgs_cons (pg_name (i := 2) sc_lowest.nd rfl (by first | exact Or.inl rfl | exact Or.inr rfl)) pgs_nil))) (pd_var 0))
    (pssd_cons (psd_set (i := 3) sc_lowest.nd rfl (by first | exact Or.inl rfl | exact Or.inr rfl) (pd_call G_divisor_of (hr.mono (by decide)) rfl tk (pad_cons (pd_op opd_add (pd_op opd_add (pd_op opd_add (pd_lst (pad_cons (pd_var 1) pad_nil)) (pd_ct cd_list rfl (g0.at 14) bt_list (pad_cons (pd_ix (pd_var 2) pd_int) pad_nil))) (pd_ct cd_list rfl (g0.at 14) bt_list (pad_cons (pd_ix (pd_var 2) pd_int) pad_nil))) (pd_ct cd_list rfl (g0.at 14) bt_list (pad_cons (pd_ix (pd_var 2) pd_int) pad_nil))) pad_nil)))
    (pssd_one (psd_ret (pd_tup (pad_cons (pd_op opd_fdiv (pd_var 1) (pd_var 3)) (pad_cons (pd_ct cd_tuple rfl (g0.at 13) bt_tuple (pad_cons (pd_lc (own := [("row", 4)]) (T := (.nm 4)) rfl sc_lowest.nd (pid_seq (pd_var 2)) (blkOk_by (N := n_lowest) (sc := defScope s_lowest) (by decide +kernel)) (fun _ _ _ _ _ => (pg_name (i := 4) sc_lowest.nd rfl (by first | exact Or.inl rfl | exact Or.inr rfl))) (fun _ _ _ _ _ => pts_yes') (fun _ _ _ _ _ => (pd_ct cd_tuple rfl (g0.at 13) bt_tuple (pad_cons (pd_lc (own := [("number", 5)]) (T := (.nm 5)) rfl sc_lowest.nd (pid_seq (pd_var 4)) (blkOk_by (by rfl)) (fun _ _ _ _ _ => (pg_name (i := 5) sc_lowest.nd rfl (by first | exact Or.inl rfl | exact Or.inr rfl))) (fun _ _ _ _ _ => pts_yes') (fun _ _ _ _ _ => (pd_op opd_fdiv (pd_var 5) (pd_var 3)))) pad_nil)))) pad_nil)) pad_nil)))))))
abbrev n_table_of : List Str := ["numbers", "a", "b", "c", "d", "n", "first", "second", "third"]
theorem sc_table_of : FnScope n_table_of ["numbers"] (defScope s_table_of) := ⟨rfl, rfl, rfl, by decide +kernel, rfl, by decide +kernel, by decide +kernel⟩
theorem ok_table_of (F : FunD K "table_of" "table_of" (defArgs s_table_of) (defBody s_table_of) (defScope s_table_of) [] [] f fd) (g0 : Gs mg) (G_lowest : Dn P w K mg base "lowest" 4 f_lowest) : FnOk P w K mg base (L2.CX P w) 6 f fd ["numbers"] (spD K f_table_of) :=
  fn_ok (n := 9) (np := 1) (F := b_table_of) F sc_table_of rfl rfl fun cdv A outer s H E hr => by
    have tk := takes_of (X := cxOf (L2.CX P w) P w K mg base n_table_of "table_of" (defScope s_table_of) f cdv A outer s H E) rfl rfl rfl rfl
    unfold b_table_of
    exact (pssd_cons (psd_setT (is := [1, 2, 3, 4]) (pg_tup rfl (pgs_cons (pg_name (i := 1) sc_table_of.nd rfl (by first | exact Or.inl rfl | exact Or.inr rfl)) (pgs_cons (pg_name (i := 2) sc_table_of.nd rfl (by first | exact Or.inl rfl | exact Or.inr rfl)) (pgs_cons (pg_name (i := 3) sc_table_of.nd rfl (by first | exact Or.inl rfl | exact Or.inr rfl)) (pgs_cons (pg_name (i := 4) sc_table_of.nd rfl (by first | exact Or.inl rfl | exact Or.inr rfl)) pgs_nil))))) (pd_var 0))
    (pssd_cons (psd_set (i := 5) sc_table_of.nd rfl (by first | exact Or.inl rfl | exact Or.inr rfl) (pd_op opd_add (pd_op opd_add (pd_op opd_add (pd_op opd_mul (pd_var 1) (pd_var 1)) (pd_op opd_mul (pd_var 2) (pd_var 2))) (pd_op opd_mul (pd_var 3) (pd_var 3))) (pd_op opd_mul (pd_var 4) (pd_var 4))))
    (pssd_cons (psd_if (ptd_cmp (opd_eq hr.units) (pd_var 5) pd_int (nomark _))
    (pssd_one psd_never)
    pssd_nil)
    (pssd_cons (psd_set (i := 6) sc_table_of.nd rfl (by first | exact Or.inl rfl | exact Or.inr rfl) (pd_tup (pad_cons (pd_op opd_sub (pd_op opd_sub (pd_op opd_add (pd_op opd_mul (pd_var 1) (pd_var 1)) (pd_op opd_mul (pd_var 2) (pd_var 2))) (pd_op opd_mul (pd_var 3) (pd_var 3))) (pd_op opd_mul (pd_var 4) (pd_var 4))) (pad_cons (pd_op opd_sub (pd_op opd_mul (pd_op opd_mul pd_int (pd_var 2)) (pd_var 3)) (pd_op opd_mul (pd_op opd_mul pd_int (pd_var 1)) (pd_var 4))) (pad_cons (pd_op opd_add (pd_op opd_mul (pd_op opd_mul pd_int (pd_var 2)) (pd_var 4)) (pd_op opd_mul (pd_op opd_mul pd_int (pd_var 1)) (pd_var 3))) pad_nil)))))
    (pssd_cons (psd_set (i := 7) sc_table_of.nd rfl (by first | exact Or.inl rfl | exact Or.inr rfl) (pd_tup (pad_cons (pd_op opd_add (pd_op opd_mul (pd_op opd_mul pd_int (pd_var 2)) (pd_var 3)) (pd_op opd_mul (pd_op opd_mul pd_int (pd_var 1)) (pd_var 4))) (pad_cons (pd_op opd_sub (pd_op opd_add (pd_op opd_sub (pd_op opd_mul (pd_var 1) (pd_var 1)) (pd_op opd_mul (pd_var 2) (pd_var 2))) (pd_op opd_mul (pd_var 3) (pd_var 3))) (pd_op opd_mul (pd_var 4) (pd_var 4))) (pad_cons (pd_op opd_sub (pd_op opd_mul (pd_op opd_mul pd_int (pd_var 3)) (pd_var 4)) (pd_op opd_mul (pd_op opd_mul pd_int (pd_var 1)) (pd_var 2))) pad_nil)))))
    (pssd_cons (psd_set (i := 8) sc_table_of.nd rfl (by first | exact Or.inl rfl | exact Or.inr rfl) (pd_tup (pad_cons (pd_op opd_sub (pd_op opd_mul (pd_op opd_mul pd_int (pd_var 2)) (pd_var 4)) (pd_op opd_mul (pd_op opd_mul pd_int (pd_var 1)) (pd_var 3))) (pad_cons (pd_op opd_add (pd_op opd_mul (pd_op opd_mul pd_int (pd_var 3)) (pd_var 4)) (pd_op opd_mul (pd_op opd_mul pd_int (pd_var 1)) (pd_var 2))) (pad_cons (pd_op opd_add (pd_op opd_sub (pd_op opd_sub (pd_op opd_mul (pd_var 1) (pd_var 1)) (pd_op opd_mul (pd_var 2) (pd_var 2))) (pd_op opd_mul (pd_var 3) (pd_var 3))) (pd_op opd_mul (pd_var 4) (pd_var 4))) pad_nil)))))
    (pssd_one (psd_ret (pd_call G_lowest (hr.mono (by decide)) rfl tk (pad_cons (pd_tup (pad_cons (pd_var 5) (pad_cons (pd_tup (pad_cons (pd_var 6) (pad_cons (pd_var 7) (pad_cons (pd_var 8) pad_nil)))) pad_nil))) pad_nil))))))))))
abbrev n_Turn_table : List Str := ["self"]
theorem sc_Turn_table : FnScope n_Turn_table ["self"] (defScope s_Turn_table) := ⟨rfl, rfl, rfl, by decide +kernel, rfl, by decide +kernel, by decide +kernel⟩
theorem ok_Turn_table (F : FunD K "table" "Turn.table" (defArgs s_Turn_table) (defBody s_Turn_table) (defScope s_Turn_table) [] [] f fd) (g0 : Gs mg) (G_table_of : Dn P w K mg base "table_of" 6 f_table_of) (hF_kept : ∀ C ∈ cs_kept, Cls K (He.ga K C) ∧ NoAttr K (He.ga K C) "kept") : FnOk P w K mg base (L2.CX P w) 8 f fd ["self"] (spD K f_Turn_table) :=
  fn_ok (n := 1) (np := 1) (F := b_Turn_table) F sc_Turn_table rfl rfl fun cdv A outer s H E hr => by
    have tk := takes_of (X := cxOf (L2.CX P w) P w K mg base n_Turn_table "Turn.table" (defScope s_Turn_table) f cdv A outer s H E) rfl rfl rfl rfl
    unfold b_Turn_table
    exact (pssd_one (psd_ret (pd_call G_table_of (hr.mono (by decide)) rfl tk (pad_cons (pd_fld hF_kept (pd_var 0)) pad_nil))))
abbrev n__law_cell : List Str := ["_law_script", "_law_k", "_law_cell_here", "_law_mixed"]
theorem sc__law_cell : FnScope n__law_cell ["_law_script", "_law_k"] (defScope s__law_cell) := ⟨rfl, rfl, rfl, by decide +kernel, rfl, by decide +kernel, by decide +kernel⟩
theorem ok__law_cell (F : FunD K "_law_cell" "_law_cell" (defArgs s__law_cell) (defBody s__law_cell) (defScope s__law_cell) [] [] f fd) (g0 : Gs mg) : FnOk P w K mg base (L2.CX P w) 2 f fd ["_law_script", "_law_k"] (spD K f__law_cell) :=
  fn_ok (n := 4) (np := 2) (F := b__law_cell) F sc__law_cell rfl rfl fun cdv A outer s H E hr => by
    have tk := takes_of (X := cxOf (L2.CX P w) P w K mg base n__law_cell "_law_cell" (defScope s__law_cell) f cdv A outer s H E) rfl rfl rfl rfl
    unfold b__law_cell
    exact (pssd_cons (psd_set (i := 2) sc__law_cell.nd rfl (by first | exact Or.inl rfl | exact Or.inr rfl) pd_int)
    (pssd_cons (psd_if (ptd_cmp opd_gt (pd_cb cd_len rfl (g0.at 0) bt_len (pad_cons (pd_var 0) pad_nil)) pd_int (nomark _))
    (pssd_one (psd_set (i := 2) sc__law_cell.nd rfl (by first | exact Or.inl rfl | exact Or.inr rfl) (pd_ix (pd_var 0) (pd_op opd_mod (pd_var 1) (pd_cb cd_len rfl (g0.at 0) bt_len (pad_cons (pd_var 0) pad_nil))))))
    pssd_nil)
    (pssd_cons (psd_set (i := 3) sc__law_cell.nd rfl (by first | exact Or.inl rfl | exact Or.inr rfl) (pd_op opd_mod (pd_op opd_mul (pd_op opd_add (pd_op opd_add (pd_op opd_mod (pd_var 2) pd_int) (pd_op opd_mul pd_int (pd_var 1))) pd_int) pd_int) pd_int))
    (pssd_one (psd_ret (pd_op opd_add (pd_op opd_mul (pd_op opd_fdiv (pd_var 2) pd_int) pd_int) (pd_op opd_mod (pd_op opd_add (pd_op opd_mul (pd_var 3) pd_int) (pd_var 1)) pd_int)))))))
abbrev n__law_number : List Str := ["_law_cell_here", "_law_kind"]
theorem sc__law_number : FnScope n__law_number ["_law_cell_here", "_law_kind"] (defScope s__law_number) := ⟨rfl, rfl, rfl, by decide +kernel, rfl, by decide +kernel, by decide +kernel⟩
theorem ok__law_number (F : FunD K "_law_number" "_law_number" (defArgs s__law_number) (defBody s__law_number) (defScope s__law_number) [] [] f fd) (g0 : Gs mg) : FnOk P w K mg base (L2.CX P w) 2 f fd ["_law_cell_here", "_law_kind"] (spD K f__law_number) :=
  fn_ok (n := 2) (np := 2) (F := b__law_number) F sc__law_number rfl rfl fun cdv A outer s H E hr => by
    have tk := takes_of (X := cxOf (L2.CX P w) P w K mg base n__law_number "_law_number" (defScope s__law_number) f cdv A outer s H E) rfl rfl rfl rfl
    unfold b__law_number
    exact (pssd_cons (psd_if (ptd_cmp (opd_eq hr.units) (pd_op opd_mod (pd_var 1) pd_int) pd_int (nomark _))
    (pssd_one (psd_ret (pd_op opd_sub (pd_op opd_mod (pd_op opd_mul (pd_var 0) (pd_op opd_pow pd_int pd_int)) (pd_op opd_add (pd_op opd_mul pd_int (pd_op opd_pow pd_int pd_int)) pd_int)) (pd_op opd_pow pd_int pd_int))))
    pssd_nil)
    (pssd_cons (psd_if (ptd_cmp (opd_eq hr.units) (pd_op opd_mod (pd_var 1) pd_int) pd_int (nomark _))
    (pssd_one (psd_ret (pd_op opd_sub (pd_op opd_mod (pd_var 0) pd_int) pd_int)))
    pssd_nil)
    (pssd_one (psd_ret (pd_op opd_sub (pd_op opd_mod (pd_var 0) pd_int) pd_int)))))
abbrev n__law_spot : List Str := ["_law_script", "_law_at", "_law_kind", "_law_k"]
theorem sc__law_spot : FnScope n__law_spot ["_law_script", "_law_at"] (defScope s__law_spot) := ⟨rfl, rfl, rfl, by decide +kernel, rfl, by decide +kernel, by decide +kernel⟩
theorem ok__law_spot (F : FunD K "_law_spot" "_law_spot" (defArgs s__law_spot) (defBody s__law_spot) (defScope s__law_spot) [] [] f fd) (g0 : Gs mg) (G__law_cell : Dn P w K mg base "_law_cell" 2 f__law_cell) (G__law_number : Dn P w K mg base "_law_number" 2 f__law_number) : FnOk P w K mg base (L2.CX P w) 4 f fd ["_law_script", "_law_at"] (spD K f__law_spot) :=
  fn_ok (n := 4) (np := 2) (F := b__law_spot) F sc__law_spot rfl rfl fun cdv A outer s H E hr => by
    have tk := takes_of (X := cxOf (L2.CX P w) P w K mg base n__law_spot "_law_spot" (defScope s__law_spot) f cdv A outer s H E) rfl rfl rfl rfl
    unfold b__law_spot e__law_spot_0
    exact (pssd_cons (psd_set (i := 2) sc__law_spot.nd rfl (by first | exact Or.inl rfl | exact Or.inr rfl) (pd_call G__law_cell (hr.mono (by decide)) rfl tk (pad_cons (pd_var 0) (pad_cons (pd_var 1) pad_nil))))
    (pssd_one (psd_ret (pd_ct cd_tuple rfl (g0.at 13) bt_tuple (pad_cons (pd_lc (own := [("_law_k", 3)]) (T := (.nm 3)) rfl sc__law_spot.nd (pid_range1 rfl (g0.at 1) (pad_cons pd_int pad_nil)) (blkOk_by (N := n__law_spot) (sc := defScope s__law_spot) (by decide +kernel)) (fun _ _ _ _ _ => (pg_name (i := 3) sc__law_spot.nd rfl (by first | exact Or.inl rfl | exact Or.inr rfl))) (fun _ _ _ _ _ => pts_yes') (fun _ _ _ _ _ => (pd_call G__law_number (hr.mono (by decide)) rfl takes0 (pad_cons (pd_call G__law_cell (hr.mono (by decide)) rfl takes0 (pad_cons (pd_var 0) (pad_cons (pd_op opd_add (pd_op opd_add (pd_var 1) pd_int) (pd_var 3)) pad_nil))) (pad_cons (pd_var 2) pad_nil))))) pad_nil)))))
abbrev n_as_told : List Str := ["numbers", "by", "number", "first"]
theorem sc_as_told : FnScope n_as_told ["numbers"] (defScope s_as_told) := ⟨rfl, rfl, rfl, by decide +kernel, rfl, by decide +kernel, by decide +kernel⟩
theorem ok_as_told (F : FunD K "as_told" "as_told" (defArgs s_as_told) (defBody s_as_told) (defScope s_as_told) [] [] f fd) (g0 : Gs mg) (G_divisor_of : Dn P w K mg base "divisor_of" 2 f_divisor_of) : FnOk P w K mg base (L2.CX P w) 4 f fd ["numbers"] (spD K f_as_told) :=
  fn_ok (n := 4) (np := 1) (F := b_as_told) F sc_as_told rfl rfl fun cdv A outer s H E hr => by
    have tk := takes_of (X := cxOf (L2.CX P w) P w K mg base n_as_told "as_told" (defScope s_as_told) f cdv A outer s H E) rfl rfl rfl rfl
    unfold b_as_told e_as_told_0 w_as_told_0
    exact (pssd_cons (psd_set (i := 1) sc_as_told.nd rfl (by first | exact Or.inl rfl | exact Or.inr rfl) (pd_call G_divisor_of (hr.mono (by decide)) rfl tk (pad_cons (pd_var 0) pad_nil)))
    (pssd_cons (psd_if (ptd_cmp (opd_eq hr.units) (pd_var 1) pd_int (nomark _))
    (pssd_one psd_never)
    pssd_nil)
    (pssd_cons (psd_for (passes_of rfl) rfl (pid_rev rfl (g0.at 4) (pd_var 0)) (pg_name (i := 2) sc_as_told.nd rfl (by first | exact Or.inl rfl | exact Or.inr rfl))
    (pssd_one (psd_if (ptd_cmp (opd_ne hr.units) (pd_var 2) pd_int (nomark _))
    (pssd_one (psd_set (i := 3) sc_as_told.nd rfl (by first | exact Or.inl rfl | exact Or.inr rfl) (pd_var 2)))
    pssd_nil)))
    (pssd_cons (psd_if (ptd_cmp opd_lt (pd_var 3) pd_int (nomark _))
    (pssd_one (psd_set (i := 1) sc_as_told.nd rfl (by first | exact Or.inl rfl | exact Or.inr rfl) (pd_op opd_sub pd_int (pd_var 1))))
    pssd_nil)
    (pssd_one (psd_ret (pd_ct cd_tuple rfl (g0.at 13) bt_tuple (pad_cons (pd_lc (own := [("number", 2)]) (T := (.nm 2)) rfl sc_as_told.nd (pid_seq (pd_var 0)) (blkOk_by (N := n_as_told) (sc := defScope s_as_told) (by decide +kernel)) (fun _ _ _ _ _ => (pg_name (i := 2) sc_as_told.nd rfl (by first | exact Or.inl rfl | exact Or.inr rfl))) (fun _ _ _ _ _ => pts_yes') (fun _ _ _ _ _ => (pd_op opd_fdiv (pd_var 2) (pd_var 1)))) pad_nil))))))))
abbrev n_Turn___init__ : List Str := ["self", "numbers"]
theorem sc_Turn___init__ : FnScope n_Turn___init__ ["self", "numbers"] (defScope s_Turn___init__) := ⟨rfl, rfl, rfl, by decide +kernel, rfl, by decide +kernel, by decide +kernel⟩
theorem ok_Turn___init__ (F : FunD K "__init__" "Turn.__init__" (defArgs s_Turn___init__) (defBody s_Turn___init__) (defScope s_Turn___init__) [] [] f fd) (g0 : Gs mg) (G_as_told : Dn P w K mg base "as_told" 4 f_as_told) : FnOk P w K mg base (L2.CX P w) 6 f fd ["self", "numbers"] (spI K "kept" f_Turn___init__) :=
  fn_init (n := 1) (np := 1) (F := b_Turn___init__) F sc_Turn___init__ rfl rfl rfl (by first | exact Or.inl rfl | exact Or.inr (Or.inl rfl) | exact Or.inr (Or.inr rfl)) (by decide) (by decide) (fun _ => rfl) fun cdv A outer s H E hr => by
    have tk := takes_of (X := cxOf (L2.CX P w) P w K mg base n_Turn___init__ "Turn.__init__" (defScope s_Turn___init__) f cdv A outer s H E) rfl rfl rfl rfl
    unfold b_Turn___init__
    exact (pd_call G_as_told (hr.mono (by decide)) rfl tk (pad_cons (pd_var 1) pad_nil))
abbrev n_corner_number : List Str := ["turn"]
theorem sc_corner_number : FnScope n_corner_number ["turn"] (defScope s_corner_number) := ⟨rfl, rfl, rfl, by decide +kernel, rfl, by decide +kernel, by decide +kernel⟩
theorem ok_corner_number (F : FunD K "corner_number" "corner_number" (defArgs s_corner_number) (defBody s_corner_number) (defScope s_corner_number) [] [] f fd) (g0 : Gs mg) (hM_table : ∀ q ∈ tb_table, Mt P w K mg base q.1 "table" 8 q.2) : FnOk P w K mg base (L2.CX P w) 10 f fd ["turn"] (spD K f_corner_number) :=
  fn_ok (n := 1) (np := 1) (F := b_corner_number) F sc_corner_number rfl rfl fun cdv A outer s H E hr => by
    have tk := takes_of (X := cxOf (L2.CX P w) P w K mg base n_corner_number "corner_number" (defScope s_corner_number) f cdv A outer s H E) rfl rfl rfl rfl
    unfold b_corner_number
    exact (pssd_one (psd_ret (pd_ix (pd_meth0 (tbl := tb_table) (List.cons_ne_nil _ _) hM_table (hr.mono (by decide)) tk (pd_var 0)) pd_int)))
abbrev n_plain_product : List Str := ["one", "other", "a", "b", "c", "d", "e", "f", "g", "h", "first", "second", "third", "fourth"]
theorem sc_plain_product : FnScope n_plain_product ["one", "other"] (defScope s_plain_product) := ⟨rfl, rfl, rfl, by decide +kernel, rfl, by decide +kernel, by decide +kernel⟩
theorem ok_plain_product (F : FunD K "plain_product" "plain_product" (defArgs s_plain_product) (defBody s_plain_product) (defScope s_plain_product) [] [] f fd) (g0 : Gs mg) : FnOk P w K mg base (L2.CX P w) 2 f fd ["one", "other"] (spD K f_plain_product) :=
  fn_ok (n := 14) (np := 2) (F := b_plain_product) F sc_plain_product rfl rfl fun cdv A outer s H E hr => by
    have tk := takes_of (X := cxOf (L2.CX P w) P w K mg base n_plain_product "plain_product" (defScope s_plain_product) f cdv A outer s H E) rfl rfl rfl rfl
    unfold b_plain_product
    exact (pssd_cons (psd_setT (is := [2, 3, 4, 5]) (pg_tup rfl (pgs_cons (pg_name (i := 2) sc_plain_product.nd rfl (by first | exact Or.inl rfl | exact Or.inr rfl)) (pgs_cons (pg_name (i := 3) sc_plain_product.nd rfl (by first | exact Or.inl rfl | exact Or.inr rfl)) (pgs_cons (pg_name (i := 4) sc_plain_product.nd rfl (by first | exact Or.inl rfl | exact Or.inr rfl)) (pgs_cons (pg_name (i := 5) sc_plain_product.nd rfl (by first | exact Or.inl rfl | exact Or.inr rfl)) pgs_nil))))) (pd_var 0))
    (pssd_cons (psd_setT (is := [6, 7, 8, 9]) (pg_tup rfl (pgs_cons (pg_name (i := 6) sc_plain_product.nd rfl (by first | exact Or.inl rfl | exact Or.inr rfl)) (pgs_cons (pg_name (i := 7) sc_plain_product.nd rfl (by first | exact Or.inl rfl | exact Or.inr rfl)) (pgs_cons (pg_name (i := 8) sc_plain_product.nd rfl (by first | exact Or.inl rfl | exact Or.inr rfl)) (pgs_cons (pg_name (i := 9) sc_plain_product.nd rfl (by first | exact Or.inl rfl | exact Or.inr rfl)) pgs_nil))))) (pd_var 1))
    (pssd_cons (psd_set (i := 10) sc_plain_product.nd rfl (by first | exact Or.inl rfl | exact Or.inr rfl) (pd_op opd_sub (pd_op opd_sub (pd_op opd_sub (pd_op opd_mul (pd_var 2) (pd_var 6)) (pd_op opd_mul (pd_var 3) (pd_var 7))) (pd_op opd_mul (pd_var 4) (pd_var 8))) (pd_op opd_mul (pd_var 5) (pd_var 9))))
    (pssd_cons (psd_set (i := 11) sc_plain_product.nd rfl (by first | exact Or.inl rfl | exact Or.inr rfl) (pd_op opd_sub (pd_op opd_add (pd_op opd_add (pd_op opd_mul (pd_var 2) (pd_var 7)) (pd_op opd_mul (pd_var 3) (pd_var 6))) (pd_op opd_mul (pd_var 4) (pd_var 9))) (pd_op opd_mul (pd_var 5) (pd_var 8))))
    (pssd_cons (psd_set (i := 12) sc_plain_product.nd rfl (by first | exact Or.inl rfl | exact Or.inr rfl) (pd_op opd_add (pd_op opd_add (pd_op opd_sub (pd_op opd_mul (pd_var 2) (pd_var 8)) (pd_op opd_mul (pd_var 3) (pd_var 9))) (pd_op opd_mul (pd_var 4) (pd_var 6))) (pd_op opd_mul (pd_var 5) (pd_var 7))))
    (pssd_cons (psd_set (i := 13) sc_plain_product.nd rfl (by first | exact Or.inl rfl | exact Or.inr rfl) (pd_op opd_add (pd_op opd_sub (pd_op opd_add (pd_op opd_mul (pd_var 2) (pd_var 9)) (pd_op opd_mul (pd_var 3) (pd_var 8))) (pd_op opd_mul (pd_var 4) (pd_var 7))) (pd_op opd_mul (pd_var 5) (pd_var 6))))
    (pssd_one (psd_ret (pd_tup (pad_cons (pd_var 10) (pad_cons (pd_var 11) (pad_cons (pd_var 12) (pad_cons (pd_var 13) pad_nil)))))))))))))
abbrev n_Turn_number : List Str := ["self"]
theorem sc_Turn_number : FnScope n_Turn_number ["self"] (defScope s_Turn_number) := ⟨rfl, rfl, rfl, by decide +kernel, rfl, by decide +kernel, by decide +kernel⟩
theorem ok_Turn_number (F : FunD K "number" "Turn.number" (defArgs s_Turn_number) (defBody s_Turn_number) (defScope s_Turn_number) [] [] f fd) (g0 : Gs mg) (hF_kept : ∀ C ∈ cs_kept, Cls K (He.ga K C) ∧ NoAttr K (He.ga K C) "kept") : FnOk P w K mg base (L2.CX P w) 2 f fd ["self"] (spD K f_Turn_number) :=
  fn_ok (n := 1) (np := 1) (F := b_Turn_number) F sc_Turn_number rfl rfl fun cdv A outer s H E hr => by
    have tk := takes_of (X := cxOf (L2.CX P w) P w K mg base n_Turn_number "Turn.number" (defScope s_Turn_number) f cdv A outer s H E) rfl rfl rfl rfl
    unfold b_Turn_number
    exact (pssd_one (psd_ret (pd_fld hF_kept (pd_var 0))))
abbrev n_Turn_behind : List Str := ["self", "first"]
theorem sc_Turn_behind : FnScope n_Turn_behind ["self", "first"] (defScope s_Turn_behind) := ⟨rfl, rfl, rfl, by decide +kernel, rfl, by decide +kernel, by decide +kernel⟩
theorem ok_Turn_behind (F : FunD K "behind" "Turn.behind" (defArgs s_Turn_behind) (defBody s_Turn_behind) (defScope s_Turn_behind) [] [] f fd) (g0 : Gs mg) (G_plain_product : Dn P w K mg base "plain_product" 2 f_plain_product) (hF_kept : ∀ C ∈ cs_kept, Cls K (He.ga K C) ∧ NoAttr K (He.ga K C) "kept") (hM_number : ∀ q ∈ tb_number, Mt P w K mg base q.1 "number" 2 q.2) (I_Turn : Mi P w K mg base "Turn" "kept" 6 f_Turn___init__) : FnOk P w K mg base (L2.CX P w) 9 f fd ["self", "first"] (spD K f_Turn_behind) :=
  fn_ok (n := 2) (np := 2) (F := b_Turn_behind) F sc_Turn_behind rfl rfl fun cdv A outer s H E hr => by
    have tk := takes_of (X := cxOf (L2.CX P w) P w K mg base n_Turn_behind "Turn.behind" (defScope s_Turn_behind) f cdv A outer s H E) rfl rfl rfl rfl
    unfold b_Turn_behind
    exact (pssd_one (psd_ret (pd_make I_Turn (hr.mono (by decide)) rfl tk (pad_cons (pd_call G_plain_product (hr.mono (by decide)) rfl tk (pad_cons (pd_fld hF_kept (pd_var 0)) (pad_cons (pd_meth0 (tbl := tb_number) (List.cons_ne_nil _ _) hM_number (hr.mono (by decide)) tk (pd_var 1)) pad_nil))) pad_nil))))
abbrev n_summed : List Str := ["one", "other"]
theorem sc_summed : FnScope n_summed ["one", "other"] (defScope s_summed) := ⟨rfl, rfl, rfl, by decide +kernel, rfl, by decide +kernel, by decide +kernel⟩
theorem ok_summed (F : FunD K "summed" "summed" (defArgs s_summed) (defBody s_summed) (defScope s_summed) [] [] f fd) (g0 : Gs mg) : FnOk P w K mg base (L2.CX P w) 2 f fd ["one", "other"] (spD K f_summed) :=
  fn_ok (n := 2) (np := 2) (F := b_summed) F sc_summed rfl rfl fun cdv A outer s H E hr => by
    have tk := takes_of (X := cxOf (L2.CX P w) P w K mg base n_summed "summed" (defScope s_summed) f cdv A outer s H E) rfl rfl rfl rfl
    unfold b_summed
    exact (pssd_one (psd_ret (pd_op opd_add (pd_op opd_add (pd_op opd_mul (pd_ix (pd_var 0) pd_int) (pd_ix (pd_var 1) pd_int)) (pd_op opd_mul (pd_ix (pd_var 0) pd_int) (pd_ix (pd_var 1) pd_int))) (pd_op opd_mul (pd_ix (pd_var 0) pd_int) (pd_ix (pd_var 1) pd_int)))))
abbrev n_place_by : List Str := ["table", "spot", "n", "rows", "brought", "by", "row", "number"]
theorem sc_place_by : FnScope n_place_by ["table", "spot"] (defScope s_place_by) := ⟨rfl, rfl, rfl, by decide +kernel, rfl, by decide +kernel, by decide +kernel⟩
theorem ok_place_by (F : FunD K "place_by" "place_by" (defArgs s_place_by) (defBody s_place_by) (defScope s_place_by) [] [] f fd) (g0 : Gs mg) (G_divisor_of : Dn P w K mg base "divisor_of" 2 f_divisor_of) (G_summed : Dn P w K mg base "summed" 2 f_summed) : FnOk P w K mg base (L2.CX P w) 4 f fd ["table", "spot"] (spD K f_place_by) :=
  fn_ok (n := 8) (np := 2) (F := b_place_by) F sc_place_by rfl rfl fun cdv A outer s H E hr => by
    have tk := takes_of (X := cxOf (L2.CX P w) P w K mg base n_place_by "place_by" (defScope s_place_by) f cdv A outer s H E) rfl rfl rfl rfl
    unfold b_place_by e_place_by_1 e_place_by_0
    exact (pssd_cons (psd_setT (is := [2, 3]) (pg_tup rfl (pgs_cons (pg_name (i := 2) sc_place_by.nd rfl (by first | exact Or.inl rfl | exact Or.inr rfl)) (pgs_cons (pg_name (i := 3) sc_place_by.nd rfl (by first | exact Or.inl rfl | exact Or.inr rfl)) pgs_nil))) (pd_var 0))
    (pssd_cons (psd_setLc (own := [("row", 6)]) (T := (.nm 6)) (i := 4) rfl sc_place_by.nd rfl rfl (sw_true rfl rfl rfl (by decide +kernel)) (pid_seq (pd_var 3)) (blkOk_by (N := n_place_by) (sc := defScope s_place_by) (by decide +kernel)) (fun _ _ _ _ _ => (pg_name (i := 6) sc_place_by.nd rfl (by first | exact Or.inl rfl | exact Or.inr rfl))) (fun _ _ _ _ _ => pts_yes') (fun _ _ _ _ _ => (pd_call G_summed (hr.mono (by decide)) rfl takes0 (pad_cons (pd_var 6) (pad_cons (pd_var 1) pad_nil)))))
    (pssd_cons (psd_set (i := 5) sc_place_by.nd rfl (by first | exact Or.inl rfl | exact Or.inr rfl) (pd_call G_divisor_of (hr.mono (by decide)) rfl tk (pad_cons (pd_op opd_add (pd_lst (pad_cons (pd_var 2) pad_nil)) (pd_var 4)) pad_nil)))
    (pssd_one (psd_ret (pd_tup (pad_cons (pd_op opd_fdiv (pd_var 2) (pd_var 5)) (pad_cons (pd_ct cd_tuple rfl (g0.at 13) bt_tuple (pad_cons (pd_lc (own := [("number", 7)]) (T := (.nm 7)) rfl sc_place_by.nd (pid_seq (pd_var 4)) (blkOk_by (N := n_place_by) (sc := defScope s_place_by) (by decide +kernel)) (fun _ _ _ _ _ => (pg_name (i := 7) sc_place_by.nd rfl (by first | exact Or.inl rfl | exact Or.inr rfl))) (fun _ _ _ _ _ => pts_yes') (fun _ _ _ _ _ => (pd_op opd_fdiv (pd_var 7) (pd_var 5)))) pad_nil)) pad_nil))))))))
abbrev n_Deed_place : List Str := ["self", "spot"]
theorem sc_Deed_place : FnScope n_Deed_place ["self", "spot"] (defScope s_Deed_place) := ⟨rfl, rfl, rfl, by decide +kernel, rfl, by decide +kernel, by decide +kernel⟩
theorem ok_Deed_place (F : FunD K "place" "Deed.place" (defArgs s_Deed_place) (defBody s_Deed_place) (defScope s_Deed_place) [] [] f fd) (g0 : Gs mg) (G_place_by : Dn P w K mg base "place_by" 4 f_place_by) (hM_table : ∀ q ∈ tb_table, Mt P w K mg base q.1 "table" 8 q.2) : FnOk P w K mg base (L2.CX P w) 10 f fd ["self", "spot"] (spD K f_Deed_place) :=
  fn_ok (n := 2) (np := 2) (F := b_Deed_place) F sc_Deed_place rfl rfl fun cdv A outer s H E hr => by
    have tk := takes_of (X := cxOf (L2.CX P w) P w K mg base n_Deed_place "Deed.place" (defScope s_Deed_place) f cdv A outer s H E) rfl rfl rfl rfl
    unfold b_Deed_place
    exact (pssd_one (psd_ret (pd_call G_place_by (hr.mono (by decide)) rfl tk (pad_cons (pd_meth0 (tbl := tb_table) (List.cons_ne_nil _ _) hM_table (hr.mono (by decide)) tk (pd_var 0)) (pad_cons (pd_var 1) pad_nil)))))
abbrev n__law_along : List Str := ["_law_turns", "_law_spot_here", "_law_n", "_law_turn", "_law_found"]
theorem sc__law_along : FnScope n__law_along ["_law_turns", "_law_spot_here"] (defScope s__law_along) := ⟨rfl, rfl, rfl, by decide +kernel, rfl, by decide +kernel, by decide +kernel⟩
theorem ok__law_along (F : FunD K "_law_along" "_law_along" (defArgs s__law_along) (defBody s__law_along) (defScope s__law_along) [] [] f fd) (g0 : Gs mg) (hM_place : ∀ q ∈ tb_place, Mt P w K mg base q.1 "place" 10 q.2) : FnOk P w K mg base (L2.CX P w) 12 f fd ["_law_turns", "_law_spot_here"] (spD K f__law_along) :=
  fn_ok (n := 5) (np := 2) (F := b__law_along) F sc__law_along rfl rfl fun cdv A outer s H E hr => by
    have tk := takes_of (X := cxOf (L2.CX P w) P w K mg base n__law_along "_law_along" (defScope s__law_along) f cdv A outer s H E) rfl rfl rfl rfl
    unfold b__law_along w__law_along_0
    exact (pssd_cons (psd_set (i := 2) sc__law_along.nd rfl (by first | exact Or.inl rfl | exact Or.inr rfl) pd_int)
    (pssd_cons (psd_for (passes_of rfl) rfl (pid_seq (pd_var 0)) (pg_name (i := 3) sc__law_along.nd rfl (by first | exact Or.inl rfl | exact Or.inr rfl))
    (pssd_cons (psd_set (i := 4) sc__law_along.nd rfl (by first | exact Or.inl rfl | exact Or.inr rfl) (pd_meth (tbl := tb_place) (List.cons_ne_nil _ _) hM_place (hr.mono (by decide)) tk (pd_var 3) (pad_cons (pd_var 1) pad_nil)))
    (pssd_cons (psd_set (i := 2) sc__law_along.nd rfl (by first | exact Or.inl rfl | exact Or.inr rfl) (pd_op opd_mul (pd_var 2) (pd_ix (pd_var 4) pd_int)))
    (pssd_one (psd_set (i := 1) sc__law_along.nd rfl (by first | exact Or.inl rfl | exact Or.inr rfl) (pd_ix (pd_var 4) pd_int))))))
    (pssd_one (psd_ret (pd_tup (pad_cons (pd_var 2) (pad_cons (pd_var 1) pad_nil)))))))
abbrev n__law_row : List Str := ["_law_script", "_law_at", "_law_found", "_law_k"]
theorem sc__law_row : FnScope n__law_row ["_law_script", "_law_at"] (defScope s__law_row) := ⟨rfl, rfl, rfl, by decide +kernel, rfl, by decide +kernel, by decide +kernel⟩
theorem ok__law_row (F : FunD K "_law_row" "_law_row" (defArgs s__law_row) (defBody s__law_row) (defScope s__law_row) [] [] f fd) (g0 : Gs mg) (G__law_cell : Dn P w K mg base "_law_cell" 2 f__law_cell) : FnOk P w K mg base (L2.CX P w) 4 f fd ["_law_script", "_law_at"] (spD K f__law_row) :=
  fn_ok (n := 4) (np := 2) (F := b__law_row) F sc__law_row rfl rfl fun cdv A outer s H E hr => by
    have tk := takes_of (X := cxOf (L2.CX P w) P w K mg base n__law_row "_law_row" (defScope s__law_row) f cdv A outer s H E) rfl rfl rfl rfl
    unfold b__law_row e__law_row_0
    exact (pssd_cons (psd_setLc (own := [("_law_k", 3)]) (T := (.nm 3)) (i := 2) rfl sc__law_row.nd rfl rfl (sw_true rfl rfl rfl (by decide +kernel)) (pid_range1 rfl (g0.at 1) (pad_cons pd_int pad_nil)) (blkOk_by (N := n__law_row) (sc := defScope s__law_row) (by decide +kernel)) (fun _ _ _ _ _ => (pg_name (i := 3) sc__law_row.nd rfl (by first | exact Or.inl rfl | exact Or.inr rfl))) (fun _ _ _ _ _ => pts_yes') (fun _ _ _ _ _ => (pd_op opd_sub (pd_op opd_mod (pd_call G__law_cell (hr.mono (by decide)) rfl takes0 (pad_cons (pd_var 0) (pad_cons (pd_op opd_add (pd_var 1) (pd_var 3)) pad_nil))) pd_int) pd_int)))
    (pssd_cons (psd_if (ptd_not (ptd_val (pd_cb (cd_any rfl) rfl (g0.at 8) bt_any (pad_cons (pd_var 2) pad_nil))))
    (pssd_one (psd_setIx pd_int (pv 2) (pd_op opd_mod (pd_op opd_fdiv (pd_call G__law_cell (hr.mono (by decide)) rfl tk (pad_cons (pd_var 0) (pad_cons (pd_var 1) pad_nil))) pd_int) pd_int) (pg_sub (pv 2) (pd_op opd_mod (pd_op opd_fdiv (pd_call G__law_cell (hr.mono (by decide)) rfl tk (pad_cons (pd_var 0) (pad_cons (pd_var 1) pad_nil))) pd_int) pd_int) set_list)))
    pssd_nil)
    (pssd_one (psd_ret (pd_ct cd_tuple rfl (g0.at 13) bt_tuple (pad_cons (pd_var 2) pad_nil))))))
abbrev n_behind : List Str := ["first", "second", "columns", "rows", "k", "row", "column"]
theorem sc_behind : FnScope n_behind ["first", "second"] (defScope s_behind) := ⟨rfl, rfl, rfl, by decide +kernel, rfl, by decide +kernel, by decide +kernel⟩
theorem ok_behind (F : FunD K "behind" "behind" (defArgs s_behind) (defBody s_behind) (defScope s_behind) [] [] f fd) (g0 : Gs mg) (G_lowest : Dn P w K mg base "lowest" 4 f_lowest) (G_summed : Dn P w K mg base "summed" 2 f_summed) : FnOk P w K mg base (L2.CX P w) 6 f fd ["first", "second"] (spD K f_behind) :=
  fn_ok (n := 7) (np := 2) (F := b_behind) F sc_behind rfl rfl fun cdv A outer s H E hr => by
    have tk := takes_of (X := cxOf (L2.CX P w) P w K mg base n_behind "behind" (defScope s_behind) f cdv A outer s H E) rfl rfl rfl rfl
    unfold b_behind e_behind_3 e_behind_2 e_behind_1 e_behind_0
    exact (pssd_cons (psd_set (i := 2) sc_behind.nd rfl (by first | exact Or.inl rfl | exact Or.inr rfl) (pd_lc (own := [("k", 4)]) (T := (.nm 4)) rfl sc_behind.nd (pid_range1 rfl (g0.at 1) (pad_cons pd_int pad_nil)) (blkOk_by (N := n_behind) (sc := defScope s_behind) (by decide +kernel)) (fun _ _ _ _ _ => (pg_name (i := 4) sc_behind.nd rfl (by first | exact Or.inl rfl | exact Or.inr rfl))) (fun _ _ _ _ _ => pts_yes') (fun _ _ _ _ _ => (pd_ct cd_tuple rfl (g0.at 13) bt_tuple (pad_cons (pd_lc (own := [("row", 5)]) (T := (.nm 5)) rfl sc_behind.nd (pid_seq (pd_ix (pd_var 0) pd_int)) (blkOk_by (by rfl)) (fun _ _ _ _ _ => (pg_name (i := 5) sc_behind.nd rfl (by first | exact Or.inl rfl | exact Or.inr rfl))) (fun _ _ _ _ _ => pts_yes') (fun _ _ _ _ _ => (pd_ix (pd_var 5) (pd_var 4)))) pad_nil)))))
    (pssd_cons (psd_set (i := 3) sc_behind.nd rfl (by first | exact Or.inl rfl | exact Or.inr rfl) (pd_ct cd_tuple rfl (g0.at 13) bt_tuple (pad_cons (pd_lc (own := [("row", 5)]) (T := (.nm 5)) rfl sc_behind.nd (pid_seq (pd_ix (pd_var 1) pd_int)) (blkOk_by (N := n_behind) (sc := defScope s_behind) (by decide +kernel)) (fun _ _ _ _ _ => (pg_name (i := 5) sc_behind.nd rfl (by first | exact Or.inl rfl | exact Or.inr rfl))) (fun _ _ _ _ _ => pts_yes') (fun _ _ _ _ _ => (pd_ct cd_tuple rfl (g0.at 13) bt_tuple (pad_cons (pd_lc (own := [("column", 6)]) (T := (.nm 6)) rfl sc_behind.nd (pid_seq (pd_var 2)) (blkOk_by (by rfl)) (fun _ _ _ _ _ => (pg_name (i := 6) sc_behind.nd rfl (by first | exact Or.inl rfl | exact Or.inr rfl))) (fun _ _ _ _ _ => pts_yes') (fun _ _ _ _ _ => (pd_call G_summed (hr.mono (by decide)) rfl takes0 (pad_cons (pd_var 5) (pad_cons (pd_var 6) pad_nil))))) pad_nil)))) pad_nil)))
    (pssd_one (psd_ret (pd_call G_lowest (hr.mono (by decide)) rfl tk (pad_cons (pd_tup (pad_cons (pd_op opd_mul (pd_ix (pd_var 0) pd_int) (pd_ix (pd_var 1) pd_int)) (pad_cons (pd_var 3) pad_nil))) pad_nil))))))
abbrev n__law_divisor : List Str := ["_law_numbers", "_law_found", "_law_other"]
theorem sc__law_divisor : FnScope n__law_divisor ["_law_numbers"] (defScope s__law_divisor) := ⟨rfl, rfl, rfl, by decide +kernel, rfl, by decide +kernel, by decide +kernel⟩
theorem ok__law_divisor (F : FunD K "_law_divisor" "_law_divisor" (defArgs s__law_divisor) (defBody s__law_divisor) (defScope s__law_divisor) [] [] f fd) (g0 : Gs mg) : FnOk P w K mg base (L2.CX P w) 2 f fd ["_law_numbers"] (spD K f__law_divisor) :=
  fn_ok (n := 3) (np := 1) (F := b__law_divisor) F sc__law_divisor rfl rfl fun cdv A outer s H E hr => by
    have tk := takes_of (X := cxOf (L2.CX P w) P w K mg base n__law_divisor "_law_divisor" (defScope s__law_divisor) f cdv A outer s H E) rfl rfl rfl rfl
    unfold b__law_divisor w__law_divisor_1 w__law_divisor_0
    exact (pssd_cons (psd_set (i := 1) sc__law_divisor.nd rfl (by first | exact Or.inl rfl | exact Or.inr rfl) pd_int)
    (pssd_cons (psd_for (passes_of rfl) rfl (pid_seq (pd_var 0)) (pg_name (i := 2) sc__law_divisor.nd rfl (by first | exact Or.inl rfl | exact Or.inr rfl))
    (pssd_one (psd_while (passes_of rfl) (ptd_cmp (opd_ne hr.units) (pd_var 2) pd_int (nomark _))
    (pssd_one (psd_par (i := 1) (j := 2) rfl sc__law_divisor.nd rfl rfl (by decide) rfl rfl (pad_cons (pd_var 2) (pad_cons (pd_op opd_mod (pd_var 1) (pd_var 2)) pad_nil)) rfl)))))
    (pssd_one (psd_ret (pd_cb cd_abs rfl (g0.at 9) bt_abs (pad_cons (pd_var 1) pad_nil))))))
abbrev n__law_told : List Str := ["_law_numbers", "_law_by", "_law_first", "_law_x"]
theorem sc__law_told : FnScope n__law_told ["_law_numbers"] (defScope s__law_told) := ⟨rfl, rfl, rfl, by decide +kernel, rfl, by decide +kernel, by decide +kernel⟩
theorem ok__law_told (F : FunD K "_law_told" "_law_told" (defArgs s__law_told) (defBody s__law_told) (defScope s__law_told) [] [] f fd) (g0 : Gs mg) (G__law_divisor : Dn P w K mg base "_law_divisor" 2 f__law_divisor) : FnOk P w K mg base (L2.CX P w) 4 f fd ["_law_numbers"] (spD K f__law_told) :=
  fn_ok (n := 4) (np := 1) (F := b__law_told) F sc__law_told rfl rfl fun cdv A outer s H E hr => by
    have tk := takes_of (X := cxOf (L2.CX P w) P w K mg base n__law_told "_law_told" (defScope s__law_told) f cdv A outer s H E) rfl rfl rfl rfl
    unfold b__law_told e__law_told_1 e__law_told_0
    exact (pssd_cons (psd_set (i := 1) sc__law_told.nd rfl (by first | exact Or.inl rfl | exact Or.inr rfl) (pd_call G__law_divisor (hr.mono (by decide)) rfl tk (pad_cons (pd_var 0) pad_nil)))
    (pssd_cons (psd_set (i := 2) sc__law_told.nd rfl (by first | exact Or.inl rfl | exact Or.inr rfl) (pd_ix (pd_lc (own := [("_law_x", 3)]) (T := (.nm 3)) rfl sc__law_told.nd (pid_seq (pd_var 0)) (blkOk_by (N := n__law_told) (sc := defScope s__law_told) (by decide +kernel)) (fun _ _ _ _ _ => (pg_name (i := 3) sc__law_told.nd rfl (by first | exact Or.inl rfl | exact Or.inr rfl))) (fun _ _ _ _ _ => pts_d (ptd_cmp (opd_ne hr.units) (pd_var 3) pd_int (nomark _))) (fun _ _ _ _ _ => (pd_var 3))) pd_int))
    (pssd_cons (psd_if (ptd_cmp opd_lt (pd_var 2) pd_int (nomark _))
    (pssd_one (psd_set (i := 1) sc__law_told.nd rfl (by first | exact Or.inl rfl | exact Or.inr rfl) (pd_op opd_sub pd_int (pd_var 1))))
    pssd_nil)
    (pssd_one (psd_ret (pd_ct cd_tuple rfl (g0.at 13) bt_tuple (pad_cons (pd_lc (own := [("_law_x", 3)]) (T := (.nm 3)) rfl sc__law_told.nd (pid_seq (pd_var 0)) (blkOk_by (N := n__law_told) (sc := defScope s__law_told) (by decide +kernel)) (fun _ _ _ _ _ => (pg_name (i := 3) sc__law_told.nd rfl (by first | exact Or.inl rfl | exact Or.inr rfl))) (fun _ _ _ _ _ => pts_yes') (fun _ _ _ _ _ => (pd_op opd_fdiv (pd_var 3) (pd_var 1)))) pad_nil)))))))
abbrev n__law_whole : List Str := ["_law_x"]
theorem sc__law_whole : FnScope n__law_whole ["_law_x"] (defScope s__law_whole) := ⟨rfl, rfl, rfl, by decide +kernel, rfl, by decide +kernel, by decide +kernel⟩
theorem ok__law_whole (F : FunD K "_law_whole" "_law_whole" (defArgs s__law_whole) (defBody s__law_whole) (defScope s__law_whole) [] [] f fd) (g0 : Gs mg) : FnOk P w K mg base (L2.CX P w) 2 f fd ["_law_x"] (spD K f__law_whole) :=
  fn_ok (n := 1) (np := 1) (F := b__law_whole) F sc__law_whole rfl rfl fun cdv A outer s H E hr => by
    have tk := takes_of (X := cxOf (L2.CX P w) P w K mg base n__law_whole "_law_whole" (defScope s__law_whole) f cdv A outer s H E) rfl rfl rfl rfl
    unfold b__law_whole
    exact (pssd_one (psd_ret (pd_and (pd_is is_int rfl (g0.at 19) rfl (g0.at 15) bt_int (by decide +kernel) (by decide +kernel) (pd_var 0)) (pd_one (pd_not (pd_is is_bool rfl (g0.at 19) rfl (g0.at 17) bt_bool (by decide +kernel) (by decide +kernel) (pd_var 0)))))))
abbrev n__law_tuple : List Str := ["_law_found", "_law_many", "_law_x"]
theorem sc__law_tuple : FnScope n__law_tuple ["_law_found", "_law_many"] (defScope s__law_tuple) := ⟨rfl, rfl, rfl, by decide +kernel, rfl, by decide +kernel, by decide +kernel⟩
theorem ok__law_tuple (F : FunD K "_law_tuple" "_law_tuple" (defArgs s__law_tuple) (defBody s__law_tuple) (defScope s__law_tuple) [] [] f fd) (g0 : Gs mg) (G__law_whole : Dn P w K mg base "_law_whole" 2 f__law_whole) : FnOk P w K mg base (L2.CX P w) 4 f fd ["_law_found", "_law_many"] (spD K f__law_tuple) :=
  fn_ok (n := 3) (np := 2) (F := b__law_tuple) F sc__law_tuple rfl rfl fun cdv A outer s H E hr => by
    have tk := takes_of (X := cxOf (L2.CX P w) P w K mg base n__law_tuple "_law_tuple" (defScope s__law_tuple) f cdv A outer s H E) rfl rfl rfl rfl
    unfold b__law_tuple e__law_tuple_0
    exact (pssd_one (psd_ret (pd_and (pd_is is_tup rfl (g0.at 19) rfl (g0.at 13) bt_tuple (by decide +kernel) (by decide +kernel) (pd_var 0)) (pd_and (pd_cmp (opd_eq hr.units) (pd_cb cd_len rfl (g0.at 0) bt_len (pad_cons (pd_var 0) pad_nil)) (pd_var 1) (nomark _)) (pd_one (pd_cb (cd_all rfl) rfl (g0.at 7) bt_all (pad_cons (pd_lc (own := [("_law_x", 2)]) (T := (.nm 2)) rfl sc__law_tuple.nd (pid_seq (pd_var 0)) (blkOk_by (N := n__law_tuple) (sc := defScope s__law_tuple) (by decide +kernel)) (fun _ _ _ _ _ => (pg_name (i := 2) sc__law_tuple.nd rfl (by first | exact Or.inl rfl | exact Or.inr rfl))) (fun _ _ _ _ _ => pts_yes') (fun _ _ _ _ _ => (pd_call G__law_whole (hr.mono (by decide)) rfl takes0 (pad_cons (pd_var 2) pad_nil)))) pad_nil)))))))
abbrev n__law_place : List Str := ["_law_found", "_law_n", "_law_brought", "_law_x"]
theorem sc__law_place : FnScope n__law_place ["_law_found", "_law_n", "_law_brought"] (defScope s__law_place) := ⟨rfl, rfl, rfl, by decide +kernel, rfl, by decide +kernel, by decide +kernel⟩
theorem ok__law_place (F : FunD K "_law_place" "_law_place" (defArgs s__law_place) (defBody s__law_place) (defScope s__law_place) [] [] f fd) (g0 : Gs mg) (G__law_divisor : Dn P w K mg base "_law_divisor" 2 f__law_divisor) (G__law_tuple : Dn P w K mg base "_law_tuple" 4 f__law_tuple) (G__law_whole : Dn P w K mg base "_law_whole" 2 f__law_whole) : FnOk P w K mg base (L2.CX P w) 6 f fd ["_law_found", "_law_n", "_law_brought"] (spD K f__law_place) :=
  fn_ok (n := 4) (np := 3) (F := b__law_place) F sc__law_place rfl rfl fun cdv A outer s H E hr => by
    have tk := takes_of (X := cxOf (L2.CX P w) P w K mg base n__law_place "_law_place" (defScope s__law_place) f cdv A outer s H E) rfl rfl rfl rfl
    unfold b__law_place e__law_place_1 e__law_place_0
    exact (pssd_cons (psd_if (PW.pt (pwd_or (ptd_not (ptd_val (pd_is is_tup rfl (g0.at 19) rfl (g0.at 13) bt_tuple (by decide +kernel) (by decide +kernel) (pd_var 0)))) (pwd_or (ptd_cmp (opd_ne hr.units) (pd_cb cd_len rfl (g0.at 0) bt_len (pad_cons (pd_var 0) pad_nil)) pd_int (nomark _)) (pwd_or (ptd_not (ptd_val (pd_call G__law_whole (hr.mono (by decide)) rfl tk (pad_cons (pd_ix (pd_var 0) pd_int) pad_nil)))) (pwd_or1 (ptd_cmp opd_lt (pd_ix (pd_var 0) pd_int) pd_int (nomark _)))))))
    (pssd_one (psd_ret pd_bl))
    pssd_nil)
    (pssd_cons (psd_if (PW.pt (pwd_or (ptd_not (ptd_val (pd_call G__law_tuple (hr.mono (by decide)) rfl tk (pad_cons (pd_ix (pd_var 0) pd_int) (pad_cons pd_int pad_nil))))) (pwd_or1 (ptd_cmp (opd_ne hr.units) (pd_call G__law_divisor (hr.mono (by decide)) rfl tk (pad_cons (pd_op opd_add (pd_lst (pad_cons (pd_ix (pd_var 0) pd_int) pad_nil)) (pd_ct cd_list rfl (g0.at 14) bt_list (pad_cons (pd_ix (pd_var 0) pd_int) pad_nil))) pad_nil)) pd_int (nomark _)))))
    (pssd_one (psd_ret pd_bl))
    pssd_nil)
    (pssd_one (psd_ret (pd_cmp (opd_eq hr.units) (pd_lc (own := [("_law_x", 3)]) (T := (.nm 3)) rfl sc__law_place.nd (pid_seq (pd_ix (pd_var 0) pd_int)) (blkOk_by (N := n__law_place) (sc := defScope s__law_place) (by decide +kernel)) (fun _ _ _ _ _ => (pg_name (i := 3) sc__law_place.nd rfl (by first | exact Or.inl rfl | exact Or.inr rfl))) (fun _ _ _ _ _ => pts_yes') (fun _ _ _ _ _ => (pd_op opd_mul (pd_var 3) (pd_var 1)))) (pd_lc (own := [("_law_x", 3)]) (T := (.nm 3)) rfl sc__law_place.nd (pid_seq (pd_var 2)) (blkOk_by (N := n__law_place) (sc := defScope s__law_place) (by decide +kernel)) (fun _ _ _ _ _ => (pg_name (i := 3) sc__law_place.nd rfl (by first | exact Or.inl rfl | exact Or.inr rfl))) (fun _ _ _ _ _ => pts_yes') (fun _ _ _ _ _ => (pd_op opd_mul (pd_var 3) (pd_ix (pd_var 0) pd_int)))) (nomark _))))))
abbrev n_stays : List Str := ["turn", "spot"]
theorem sc_stays : FnScope n_stays ["turn", "spot"] (defScope s_stays) := ⟨rfl, rfl, rfl, by decide +kernel, rfl, by decide +kernel, by decide +kernel⟩
theorem ok_stays (F : FunD K "stays" "stays" (defArgs s_stays) (defBody s_stays) (defScope s_stays) [] [] f fd) (g0 : Gs mg) (hM_place : ∀ q ∈ tb_place, Mt P w K mg base q.1 "place" 10 q.2) : FnOk P w K mg base (L2.CX P w) 12 f fd ["turn", "spot"] (spD K f_stays) :=
  fn_ok (n := 2) (np := 2) (F := b_stays) F sc_stays rfl rfl fun cdv A outer s H E hr => by
    have tk := takes_of (X := cxOf (L2.CX P w) P w K mg base n_stays "stays" (defScope s_stays) f cdv A outer s H E) rfl rfl rfl rfl
    unfold b_stays
    exact (pssd_one (psd_ret (pd_cmp (opd_eq hr.units) (pd_ix (pd_meth (tbl := tb_place) (List.cons_ne_nil _ _) hM_place (hr.mono (by decide)) tk (pd_var 0) (pad_cons (pd_var 1) pad_nil)) pd_int) pd_int (nomark _))))
abbrev n__law_whole_way : List Str := ["_law_turns", "_law_spot_here", "_law_turn"]
theorem sc__law_whole_way : FnScope n__law_whole_way ["_law_turns", "_law_spot_here"] (defScope s__law_whole_way) := ⟨rfl, rfl, rfl, by decide +kernel, rfl, by decide +kernel, by decide +kernel⟩
theorem ok__law_whole_way (F : FunD K "_law_whole_way" "_law_whole_way" (defArgs s__law_whole_way) (defBody s__law_whole_way) (defScope s__law_whole_way) [] [] f fd) (g0 : Gs mg) (G_stays : Dn P w K mg base "stays" 12 f_stays) (hM_place : ∀ q ∈ tb_place, Mt P w K mg base q.1 "place" 10 q.2) : FnOk P w K mg base (L2.CX P w) 14 f fd ["_law_turns", "_law_spot_here"] (spD K f__law_whole_way) :=
  fn_ok (n := 3) (np := 2) (F := b__law_whole_way) F sc__law_whole_way rfl rfl fun cdv A outer s H E hr => by
    have tk := takes_of (X := cxOf (L2.CX P w) P w K mg base n__law_whole_way "_law_whole_way" (defScope s__law_whole_way) f cdv A outer s H E) rfl rfl rfl rfl
    unfold b__law_whole_way w__law_whole_way_0
    exact (pssd_cons (psd_for (passes_of rfl) rfl (pid_seq (pd_var 0)) (pg_name (i := 2) sc__law_whole_way.nd rfl (by first | exact Or.inl rfl | exact Or.inr rfl))
    (pssd_cons (psd_if (ptd_cmp opd_isNot (pd_call G_stays (hr.mono (by decide)) rfl tk (pad_cons (pd_var 2) (pad_cons (pd_var 1) pad_nil))) pd_bl (nomark _))
    (pssd_one (psd_ret pd_bl))
    pssd_nil)
    (pssd_one (psd_set (i := 1) sc__law_whole_way.nd rfl (by first | exact Or.inl rfl | exact Or.inr rfl) (pd_ix (pd_meth (tbl := tb_place) (List.cons_ne_nil _ _) hM_place (hr.mono (by decide)) tk (pd_var 2) (pad_cons (pd_var 1) pad_nil)) pd_int)))))
    (pssd_one (psd_ret pd_bl)))
abbrev n_Turn_back : List Str := ["self", "a", "b", "c", "d"]
theorem sc_Turn_back : FnScope n_Turn_back ["self"] (defScope s_Turn_back) := ⟨rfl, rfl, rfl, by decide +kernel, rfl, by decide +kernel, by decide +kernel⟩
theorem ok_Turn_back (F : FunD K "back" "Turn.back" (defArgs s_Turn_back) (defBody s_Turn_back) (defScope s_Turn_back) [] [] f fd) (g0 : Gs mg) (hF_kept : ∀ C ∈ cs_kept, Cls K (He.ga K C) ∧ NoAttr K (He.ga K C) "kept") (I_Turn : Mi P w K mg base "Turn" "kept" 6 f_Turn___init__) : FnOk P w K mg base (L2.CX P w) 9 f fd ["self"] (spD K f_Turn_back) :=
  fn_ok (n := 5) (np := 1) (F := b_Turn_back) F sc_Turn_back rfl rfl fun cdv A outer s H E hr => by
    have tk := takes_of (X := cxOf (L2.CX P w) P w K mg base n_Turn_back "Turn.back" (defScope s_Turn_back) f cdv A outer s H E) rfl rfl rfl rfl
    unfold b_Turn_back
    exact (pssd_cons (psd_setT (is := [1, 2, 3, 4]) (pg_tup rfl (pgs_cons (pg_name (i := 1) sc_Turn_back.nd rfl (by first | exact Or.inl rfl | exact Or.inr rfl)) (pgs_cons (pg_name (i := 2) sc_Turn_back.nd rfl (by first | exact Or.inl rfl | exact Or.inr rfl)) (pgs_cons (pg_name (i := 3) sc_Turn_back.nd rfl (by first | exact Or.inl rfl | exact Or.inr rfl)) (pgs_cons (pg_name (i := 4) sc_Turn_back.nd rfl (by first | exact Or.inl rfl | exact Or.inr rfl)) pgs_nil))))) (pd_fld hF_kept (pd_var 0)))
    (pssd_one (psd_ret (pd_make I_Turn (hr.mono (by decide)) rfl tk (pad_cons (pd_tup (pad_cons (pd_var 1) (pad_cons (pd_op opd_sub pd_int (pd_var 2)) (pad_cons (pd_op opd_sub pd_int (pd_var 3)) (pad_cons (pd_op opd_sub pd_int (pd_var 4)) pad_nil))))) pad_nil)))))
abbrev n__law_product : List Str := ["_law_one", "_law_other", "_law_a", "_law_b", "_law_c", "_law_d", "_law_e", "_law_f", "_law_g", "_law_h", "_law_first", "_law_second", "_law_third"]
theorem sc__law_product : FnScope n__law_product ["_law_one", "_law_other"] (defScope s__law_product) := ⟨rfl, rfl, rfl, by decide +kernel, rfl, by decide +kernel, by decide +kernel⟩
theorem ok__law_product (F : FunD K "_law_product" "_law_product" (defArgs s__law_product) (defBody s__law_product) (defScope s__law_product) [] [] f fd) (g0 : Gs mg) : FnOk P w K mg base (L2.CX P w) 2 f fd ["_law_one", "_law_other"] (spD K f__law_product) :=
  fn_ok (n := 13) (np := 2) (F := b__law_product) F sc__law_product rfl rfl fun cdv A outer s H E hr => by
    have tk := takes_of (X := cxOf (L2.CX P w) P w K mg base n__law_product "_law_product" (defScope s__law_product) f cdv A outer s H E) rfl rfl rfl rfl
    unfold b__law_product
    exact (pssd_cons (psd_setT (is := [2, 3, 4, 5]) (pg_tup rfl (pgs_cons (pg_name (i := 2) sc__law_product.nd rfl (by first | exact Or.inl rfl | exact Or.inr rfl)) (pgs_cons (pg_name (i := 3) sc__law_product.nd rfl (by first | exact Or.inl rfl | exact Or.inr rfl)) (pgs_cons (pg_name (i := 4) sc__law_product.nd rfl (by first | exact Or.inl rfl | exact Or.inr rfl)) (pgs_cons (pg_name (i := 5) sc__law_product.nd rfl (by first | exact Or.inl rfl | exact Or.inr rfl)) pgs_nil))))) (pd_var 0))
    (pssd_cons (psd_setT (is := [6, 7, 8, 9]) (pg_tup rfl (pgs_cons (pg_name (i := 6) sc__law_product.nd rfl (by first | exact Or.inl rfl | exact Or.inr rfl)) (pgs_cons (pg_name (i := 7) sc__law_product.nd rfl (by first | exact Or.inl rfl | exact Or.inr rfl)) (pgs_cons (pg_name (i := 8) sc__law_product.nd rfl (by first | exact Or.inl rfl | exact Or.inr rfl)) (pgs_cons (pg_name (i := 9) sc__law_product.nd rfl (by first | exact Or.inl rfl | exact Or.inr rfl)) pgs_nil))))) (pd_var 1))
    (pssd_cons (psd_set (i := 10) sc__law_product.nd rfl (by first | exact Or.inl rfl | exact Or.inr rfl) (pd_op opd_sub (pd_op opd_sub (pd_op opd_sub (pd_op opd_mul (pd_var 2) (pd_var 6)) (pd_op opd_mul (pd_var 3) (pd_var 7))) (pd_op opd_mul (pd_var 4) (pd_var 8))) (pd_op opd_mul (pd_var 5) (pd_var 9))))
    (pssd_cons (psd_set (i := 11) sc__law_product.nd rfl (by first | exact Or.inl rfl | exact Or.inr rfl) (pd_op opd_sub (pd_op opd_add (pd_op opd_add (pd_op opd_mul (pd_var 2) (pd_var 7)) (pd_op opd_mul (pd_var 3) (pd_var 6))) (pd_op opd_mul (pd_var 4) (pd_var 9))) (pd_op opd_mul (pd_var 5) (pd_var 8))))
    (pssd_cons (psd_set (i := 12) sc__law_product.nd rfl (by first | exact Or.inl rfl | exact Or.inr rfl) (pd_op opd_add (pd_op opd_add (pd_op opd_sub (pd_op opd_mul (pd_var 2) (pd_var 8)) (pd_op opd_mul (pd_var 3) (pd_var 9))) (pd_op opd_mul (pd_var 4) (pd_var 6))) (pd_op opd_mul (pd_var 5) (pd_var 7))))
    (pssd_one (psd_ret (pd_tup (pad_cons (pd_var 10) (pad_cons (pd_var 11) (pad_cons (pd_var 12) (pad_cons (pd_op opd_add (pd_op opd_sub (pd_op opd_add (pd_op opd_mul (pd_var 2) (pd_var 9)) (pd_op opd_mul (pd_var 3) (pd_var 8))) (pd_op opd_mul (pd_var 4) (pd_var 7))) (pd_op opd_mul (pd_var 5) (pd_var 6))) pad_nil))))))))))))
abbrev n_law : List Str := ["_law_script", "_law_rows", "_law_spot_here", "_law_turns", "_law_whole_here", "_law_table", "_law_numbers", "_law_corner", "_law_k", "_law_n", "_law_brought", "_law_again", "_law_row_here", "_law_turn", "_law_x"]
theorem sc_law : FnScope n_law ["_law_script"] (defScope s_law) := ⟨rfl, rfl, rfl, by decide +kernel, rfl, by decide +kernel, by decide +kernel⟩
theorem ok_law (F : FunD K "law" "law" (defArgs s_law) (defBody s_law) (defScope s_law) [] [] f fd) (g0 : Gs mg) (G__law_along : Dn P w K mg base "_law_along" 12 f__law_along) (G__law_cell : Dn P w K mg base "_law_cell" 2 f__law_cell) (G__law_place : Dn P w K mg base "_law_place" 6 f__law_place) (G__law_product : Dn P w K mg base "_law_product" 2 f__law_product) (G__law_row : Dn P w K mg base "_law_row" 4 f__law_row) (G__law_spot : Dn P w K mg base "_law_spot" 4 f__law_spot) (G__law_told : Dn P w K mg base "_law_told" 4 f__law_told) (G__law_whole_way : Dn P w K mg base "_law_whole_way" 14 f__law_whole_way) (G_behind : Dn P w K mg base "behind" 6 f_behind) (G_corner_number : Dn P w K mg base "corner_number" 10 f_corner_number) (hM_back : ∀ q ∈ tb_back, Mt P w K mg base q.1 "back" 9 q.2) (hM_behind : ∀ q ∈ tb_behind, Mt P w K mg base q.1 "behind" 9 q.2) (hM_number : ∀ q ∈ tb_number, Mt P w K mg base q.1 "number" 2 q.2) (hM_place : ∀ q ∈ tb_place, Mt P w K mg base q.1 "place" 10 q.2) (hM_table : ∀ q ∈ tb_table, Mt P w K mg base q.1 "table" 8 q.2) (I_Turn : Mi P w K mg base "Turn" "kept" 6 f_Turn___init__) : FnOk P w K mg base (L2.CX P w) 16 f fd ["_law_script"] (spD K f_law) :=
  fn_ok (n := 15) (np := 1) (F := b_law) F sc_law rfl rfl fun cdv A outer s H E hr => by
    have tk := takes_of (X := cxOf (L2.CX P w) P w K mg base n_law "law" (defScope s_law) f cdv A outer s H E) rfl rfl rfl rfl
    unfold b_law e_law_5 e_law_4 e_law_3 e_law_2 w_law_0 e_law_1 e_law_0
    exact (pssd_cons (psd_setLc (own := [("_law_k", 8)]) (T := (.nm 8)) (i := 1) rfl sc_law.nd rfl rfl (sw_true rfl rfl rfl (by decide +kernel)) (pid_range1 rfl (g0.at 1) (pad_cons (pd_op opd_add pd_int (pd_op opd_mod (pd_call G__law_cell (hr.mono (by decide)) rfl tk (pad_cons (pd_var 0) (pad_cons pd_int pad_nil))) pd_int)) pad_nil)) (blkOk_by (N := n_law) (sc := defScope s_law) (by decide +kernel)) (fun _ _ _ _ _ => (pg_name (i := 8) sc_law.nd rfl (by first | exact Or.inl rfl | exact Or.inr rfl))) (fun _ _ _ _ _ => pts_yes') (fun _ _ _ _ _ => (pd_call G__law_row (hr.mono (by decide)) rfl takes0 (pad_cons (pd_var 0) (pad_cons (pd_op opd_add pd_int (pd_op opd_mul pd_int (pd_var 8))) pad_nil)))))
    (pssd_cons (psd_set (i := 2) sc_law.nd rfl (by first | exact Or.inl rfl | exact Or.inr rfl) (pd_call G__law_spot (hr.mono (by decide)) rfl tk (pad_cons (pd_var 0) (pad_cons pd_int pad_nil))))
    (pssd_cons (psd_setLc (own := [("_law_row_here", 12)]) (T := (.nm 12)) (i := 3) rfl sc_law.nd rfl rfl (sw_true rfl rfl rfl (by decide +kernel)) (pid_seq (pd_var 1)) (blkOk_by (N := n_law) (sc := defScope s_law) (by decide +kernel)) (fun _ _ _ _ _ => (pg_name (i := 12) sc_law.nd rfl (by first | exact Or.inl rfl | exact Or.inr rfl))) (fun _ _ _ _ _ => pts_yes') (fun _ _ _ _ _ => (pd_make I_Turn (hr.mono (by decide)) rfl takes0 (pad_cons (pd_var 12) pad_nil))))
    (pssd_cons (psd_set (i := 4) sc_law.nd rfl (by first | exact Or.inl rfl | exact Or.inr rfl) (pd_ix (pd_var 3) pd_int))
    (pssd_cons (psd_set (i := 5) sc_law.nd rfl (by first | exact Or.inl rfl | exact Or.inr rfl) (pd_meth0 (tbl := tb_table) (List.cons_ne_nil _ _) hM_table (hr.mono (by decide)) tk (pd_ix (pd_var 3) pd_int)))
    (pssd_cons (psd_set (i := 6) sc_law.nd rfl (by first | exact Or.inl rfl | exact Or.inr rfl) (pd_ix (pd_var 1) pd_int))
    (pssd_cons (psd_set (i := 7) sc_law.nd rfl (by first | exact Or.inl rfl | exact Or.inr rfl) (pd_call G_corner_number (hr.mono (by decide)) rfl tk (pad_cons (pd_ix (pd_var 3) pd_int) pad_nil)))
    (pssd_cons (psd_for (passes_of rfl) rfl (pid_range2 rfl (g0.at 1) (pad_cons pd_int (pad_cons (pd_cb cd_len rfl (g0.at 0) bt_len (pad_cons (pd_var 1) pad_nil)) pad_nil))) (pg_name (i := 8) sc_law.nd rfl (by first | exact Or.inl rfl | exact Or.inr rfl))
    (pssd_cons (psd_set (i := 4) sc_law.nd rfl (by first | exact Or.inl rfl | exact Or.inr rfl) (pd_meth (tbl := tb_behind) (List.cons_ne_nil _ _) hM_behind (hr.mono (by decide)) tk (pd_ix (pd_var 3) (pd_var 8)) (pad_cons (pd_var 4) pad_nil)))
    (pssd_cons (psd_set (i := 5) sc_law.nd rfl (by first | exact Or.inl rfl | exact Or.inr rfl) (pd_call G_behind (hr.mono (by decide)) rfl tk (pad_cons (pd_var 5) (pad_cons (pd_meth0 (tbl := tb_table) (List.cons_ne_nil _ _) hM_table (hr.mono (by decide)) tk (pd_ix (pd_var 3) (pd_var 8))) pad_nil))))
    (pssd_cons (psd_set (i := 6) sc_law.nd rfl (by first | exact Or.inl rfl | exact Or.inr rfl) (pd_call G__law_told (hr.mono (by decide)) rfl tk (pad_cons (pd_call G__law_product (hr.mono (by decide)) rfl tk (pad_cons (pd_ix (pd_var 1) (pd_var 8)) (pad_cons (pd_var 6) pad_nil))) pad_nil)))
    (pssd_one (psd_set (i := 7) sc_law.nd rfl (by first | exact Or.inl rfl | exact Or.inr rfl) (pd_op opd_mul (pd_var 7) (pd_call G_corner_number (hr.mono (by decide)) rfl tk (pad_cons (pd_ix (pd_var 3) (pd_var 8)) pad_nil)))))))))
    (pssd_cons (psd_if (PW.pt (pwd_or (ptd_cmp (opd_ne hr.units) (pd_meth0 (tbl := tb_number) (List.cons_ne_nil _ _) hM_number (hr.mono (by decide)) tk (pd_var 4)) (pd_call G__law_told (hr.mono (by decide)) rfl tk (pad_cons (pd_var 6) pad_nil)) (nomark _)) (pwd_or (ptd_cmp (opd_ne hr.units) (pd_meth0 (tbl := tb_table) (List.cons_ne_nil _ _) hM_table (hr.mono (by decide)) tk (pd_var 4)) (pd_var 5) (nomark _)) (pwd_or1 (ptd_cmp (opd_ne hr.units) (pd_op opd_mod (pd_var 7) (pd_call G_corner_number (hr.mono (by decide)) rfl tk (pad_cons (pd_var 4) pad_nil))) pd_int (nomark _))))))
    (pssd_one (psd_ret pd_bl))
    pssd_nil)
    (pssd_cons (psd_setT (is := [9, 10]) (pg_tup rfl (pgs_cons (pg_name (i := 9) sc_law.nd rfl (by first | exact Or.inl rfl | exact Or.inr rfl)) (pgs_cons (pg_name (i := 10) sc_law.nd rfl (by first | exact Or.inl rfl | exact Or.inr rfl)) pgs_nil))) (pd_call G__law_along (hr.mono (by decide)) rfl tk (pad_cons (pd_var 3) (pad_cons (pd_var 2) pad_nil))))
    (pssd_cons (psd_if (ptd_not (ptd_val (pd_call G__law_place (hr.mono (by decide)) rfl tk (pad_cons (pd_meth (tbl := tb_place) (List.cons_ne_nil _ _) hM_place (hr.mono (by decide)) tk (pd_var 4) (pad_cons (pd_var 2) pad_nil)) (pad_cons (pd_var 9) (pad_cons (pd_var 10) pad_nil))))))
    (pssd_one (psd_ret pd_bl))
    pssd_nil)
    (pssd_cons (psd_if (ptd_not (ptd_val (pd_call G__law_whole_way (hr.mono (by decide)) rfl tk (pad_cons (pd_var 3) (pad_cons (pd_ct cd_tuple rfl (g0.at 13) bt_tuple (pad_cons (pd_lc (own := [("_law_x", 14)]) (T := (.nm 14)) rfl sc_law.nd (pid_seq (pd_var 2)) (blkOk_by (N := n_law) (sc := defScope s_law) (by decide +kernel)) (fun _ _ _ _ _ => (pg_name (i := 14) sc_law.nd rfl (by first | exact Or.inl rfl | exact Or.inr rfl))) (fun _ _ _ _ _ => pts_yes') (fun _ _ _ _ _ => (pd_op opd_mul (pd_var 7) (pd_var 14)))) pad_nil)) pad_nil)))))
    (pssd_one (psd_ret pd_bl))
    pssd_nil)
    (pssd_cons (psd_setT (is := [9, 11]) (pg_tup rfl (pgs_cons (pg_name (i := 9) sc_law.nd rfl (by first | exact Or.inl rfl | exact Or.inr rfl)) (pgs_cons (pg_name (i := 11) sc_law.nd rfl (by first | exact Or.inl rfl | exact Or.inr rfl)) pgs_nil))) (pd_call G__law_along (hr.mono (by decide)) rfl tk (pad_cons (pd_lc (own := [("_law_turn", 13)]) (T := (.nm 13)) rfl sc_law.nd (pid_rev rfl (g0.at 4) (pd_var 3)) (blkOk_by (N := n_law) (sc := defScope s_law) (by decide +kernel)) (fun _ _ _ _ _ => (pg_name (i := 13) sc_law.nd rfl (by first | exact Or.inl rfl | exact Or.inr rfl))) (fun _ _ _ _ _ => pts_yes') (fun _ _ _ _ _ => (pd_meth0 (tbl := tb_back) (List.cons_ne_nil _ _) hM_back (hr.mono (by decide)) takes0 (pd_var 13)))) (pad_cons (pd_ix (pd_meth (tbl := tb_place) (List.cons_ne_nil _ _) hM_place (hr.mono (by decide)) tk (pd_var 4) (pad_cons (pd_var 2) pad_nil)) pd_int) pad_nil))))
    (pssd_one (psd_ret (pd_cmp (opd_eq hr.units) (pd_lc (own := [("_law_x", 14)]) (T := (.nm 14)) rfl sc_law.nd (pid_seq (pd_var 2)) (blkOk_by (N := n_law) (sc := defScope s_law) (by decide +kernel)) (fun _ _ _ _ _ => (pg_name (i := 14) sc_law.nd rfl (by first | exact Or.inl rfl | exact Or.inr rfl))) (fun _ _ _ _ _ => pts_yes') (fun _ _ _ _ _ => (pd_op opd_mul (pd_op opd_mul (pd_var 14) (pd_ix (pd_meth (tbl := tb_place) (List.cons_ne_nil _ _) hM_place (hr.mono (by decide)) takes0 (pd_var 4) (pad_cons (pd_var 2) pad_nil)) pd_int)) (pd_var 9)))) (pd_lc (own := [("_law_x", 14)]) (T := (.nm 14)) rfl sc_law.nd (pid_seq (pd_var 11)) (blkOk_by (N := n_law) (sc := defScope s_law) (by decide +kernel)) (fun _ _ _ _ _ => (pg_name (i := 14) sc_law.nd rfl (by first | exact Or.inl rfl | exact Or.inr rfl))) (fun _ _ _ _ _ => pts_yes') (fun _ _ _ _ _ => (pd_var 14))) (nomark _)))))))))))))))))
end
def d_divisor_of : He.DefD := ⟨("divisor_of", none), "divisor_of", "divisor_of", defArgs s_divisor_of, defBody s_divisor_of, defScope s_divisor_of, [], []⟩
def d_lowest : He.DefD := ⟨("lowest", none), "lowest", "lowest", defArgs s_lowest, defBody s_lowest, defScope s_lowest, [], []⟩
def d_table_of : He.DefD := ⟨("table_of", none), "table_of", "table_of", defArgs s_table_of, defBody s_table_of, defScope s_table_of, [], []⟩
def d_Turn__table : He.DefD := ⟨("Turn", some "table"), "table", "Turn.table", defArgs s_Turn_table, defBody s_Turn_table, defScope s_Turn_table, [], []⟩
def d__law_cell : He.DefD := ⟨("_law_cell", none), "_law_cell", "_law_cell", defArgs s__law_cell, defBody s__law_cell, defScope s__law_cell, [], []⟩
def d__law_number : He.DefD := ⟨("_law_number", none), "_law_number", "_law_number", defArgs s__law_number, defBody s__law_number, defScope s__law_number, [], []⟩
def d__law_spot : He.DefD := ⟨("_law_spot", none), "_law_spot", "_law_spot", defArgs s__law_spot, defBody s__law_spot, defScope s__law_spot, [], []⟩
def d_as_told : He.DefD := ⟨("as_told", none), "as_told", "as_told", defArgs s_as_told, defBody s_as_told, defScope s_as_told, [], []⟩
def d_Turn___init__ : He.DefD := ⟨("Turn", some "__init__"), "__init__", "Turn.__init__", defArgs s_Turn___init__, defBody s_Turn___init__, defScope s_Turn___init__, [], []⟩
def d_corner_number : He.DefD := ⟨("corner_number", none), "corner_number", "corner_number", defArgs s_corner_number, defBody s_corner_number, defScope s_corner_number, [], []⟩
def d_plain_product : He.DefD := ⟨("plain_product", none), "plain_product", "plain_product", defArgs s_plain_product, defBody s_plain_product, defScope s_plain_product, [], []⟩
def d_Turn__number : He.DefD := ⟨("Turn", some "number"), "number", "Turn.number", defArgs s_Turn_number, defBody s_Turn_number, defScope s_Turn_number, [], []⟩
def d_Turn__behind : He.DefD := ⟨("Turn", some "behind"), "behind", "Turn.behind", defArgs s_Turn_behind, defBody s_Turn_behind, defScope s_Turn_behind, [], []⟩
def d_summed : He.DefD := ⟨("summed", none), "summed", "summed", defArgs s_summed, defBody s_summed, defScope s_summed, [], []⟩
def d_place_by : He.DefD := ⟨("place_by", none), "place_by", "place_by", defArgs s_place_by, defBody s_place_by, defScope s_place_by, [], []⟩
def d_Turn__place : He.DefD := ⟨("Turn", some "place"), "place", "Deed.place", defArgs s_Deed_place, defBody s_Deed_place, defScope s_Deed_place, [], []⟩
def d__law_along : He.DefD := ⟨("_law_along", none), "_law_along", "_law_along", defArgs s__law_along, defBody s__law_along, defScope s__law_along, [], []⟩
def d__law_row : He.DefD := ⟨("_law_row", none), "_law_row", "_law_row", defArgs s__law_row, defBody s__law_row, defScope s__law_row, [], []⟩
def d_behind : He.DefD := ⟨("behind", none), "behind", "behind", defArgs s_behind, defBody s_behind, defScope s_behind, [], []⟩
def d__law_divisor : He.DefD := ⟨("_law_divisor", none), "_law_divisor", "_law_divisor", defArgs s__law_divisor, defBody s__law_divisor, defScope s__law_divisor, [], []⟩
def d__law_told : He.DefD := ⟨("_law_told", none), "_law_told", "_law_told", defArgs s__law_told, defBody s__law_told, defScope s__law_told, [], []⟩
def d__law_whole : He.DefD := ⟨("_law_whole", none), "_law_whole", "_law_whole", defArgs s__law_whole, defBody s__law_whole, defScope s__law_whole, [], []⟩
def d__law_tuple : He.DefD := ⟨("_law_tuple", none), "_law_tuple", "_law_tuple", defArgs s__law_tuple, defBody s__law_tuple, defScope s__law_tuple, [], []⟩
def d__law_place : He.DefD := ⟨("_law_place", none), "_law_place", "_law_place", defArgs s__law_place, defBody s__law_place, defScope s__law_place, [], []⟩
def d_stays : He.DefD := ⟨("stays", none), "stays", "stays", defArgs s_stays, defBody s_stays, defScope s_stays, [], []⟩
def d__law_whole_way : He.DefD := ⟨("_law_whole_way", none), "_law_whole_way", "_law_whole_way", defArgs s__law_whole_way, defBody s__law_whole_way, defScope s__law_whole_way, [], []⟩
def d_Turn__back : He.DefD := ⟨("Turn", some "back"), "back", "Turn.back", defArgs s_Turn_back, defBody s_Turn_back, defScope s_Turn_back, [], []⟩
def d__law_product : He.DefD := ⟨("_law_product", none), "_law_product", "_law_product", defArgs s__law_product, defBody s__law_product, defScope s__law_product, [], []⟩
def d_law : He.DefD := ⟨("law", none), "law", "law", defArgs s_law, defBody s_law, defScope s_law, [], []⟩
def fn : List He.DefD := [d_divisor_of, d_lowest, d_table_of, d_Turn__table, d__law_cell, d__law_number, d__law_spot, d_as_told, d_Turn___init__, d_corner_number, d_plain_product, d_Turn__number, d_Turn__behind, d_summed, d_place_by, d_Turn__place, d__law_along, d__law_row, d_behind, d__law_divisor, d__law_told, d__law_whole, d__law_tuple, d__law_place, d_stays, d__law_whole_way, d_Turn__back, d__law_product, d_law]
def fa : List He.Fa := [.glo "divisor_of", .glo "lowest", .glo "table_of", .glo "_law_cell", .glo "_law_number", .glo "_law_spot", .glo "as_told", .glo "corner_number", .glo "plain_product", .glo "summed", .glo "place_by", .glo "_law_along", .glo "_law_row", .glo "behind", .glo "_law_divisor", .glo "_law_told", .glo "_law_whole", .glo "_law_tuple", .glo "_law_place", .glo "stays", .glo "_law_whole_way", .glo "_law_product", .glo "law", .free "len", .free "range", .free "zip", .free "enumerate", .free "reversed", .free "sorted", .free "sum", .free "all", .free "any", .free "abs", .free "min", .free "max", .free "divmod", .free "tuple", .free "list", .free "int", .free "str", .free "bool", .free "set", .free "isinstance", .free "dict", .cls "Turn", .noat "Turn" "kept", .meth "Turn" "table", .mkr "Turn", .glo "Turn", .meth "Turn" "number", .meth "Turn" "behind", .meth "Turn" "place", .meth "Turn" "back"]
def ex (K : PySem.W.Frag) : Bool := true
def nm0 : List Str := ["_wall", "__name__", "SpaceError", "Nought", "plain_product", "divisor_of", "lowest", "summed", "place_by", "table_of", "behind", "as_told", "Deed", "words_of", "Turn", "stays", "corner_number", "_law_cell", "_law_whole", "_law_tuple", "_law_number", "_law_divisor", "_law_product", "_law_place", "_law_spot", "_law_told", "_law_row", "_law_along", "_law_whole_way"]
def nms : List Str := nm0
abbrev R : PySem.W.OpenRow := PySem.W.OpenLaw.row PySem.Challenge.rw_spaceturns_k60_whole_chains_of_turns
abbrev hk : PySem.W.Hook := hookH fa fn ex
def ob (s : PySem.W.SharedT) : He.AlX := He.obsX 4 fa fn [] [] ex (HandSHeadRun.getT s)
theorem ob_eq (s : PySem.W.SharedT) : ob s = hk.obs s.abs := He.obsX_eq (HandSHeadRun.getT_eq s)
theorem run (w : World) : HandSHeadRun.RunEq R (PySem.W.view R.prog [34]) hk ob 4000 nms w := by
  intro os
  kernel_rfl
theorem facts {P : Program} {w : World} {K : PySem.W.Frag} {h : Heap} {mg : Str → Option Value} {f : Addr} (X : K.In h) (G : h.Ns mainGlobals mg) (hfa : mg ("law" : Str) = some (.ref f)) (c : He.SaysX fa fn [] [] ex w h K) :
    ∃ fd : FuncData, (∀ (s : Shared) (v : Value), BindsTo s fd ⟨[v], []⟩ [("_law_script", v)]) ∧ ∀ base : Heap, K.In base → base.Ns mainGlobals mg → FnOk P w K mg base (L2.CX P w) 16 f fd ["_law_script"] (spD K f_law) := by
  have g0 : Gs mg := fun x hx => by
    have hm : He.Fa.free x ∈ fa := by
      have h1 : He.Fa.free x ∈ frees.map He.Fa.free := List.mem_map_of_mem hx
      have h2 : fa.drop 23 = frees.map He.Fa.free ++ fa.drop 44 := rfl
      have h3 : He.Fa.free x ∈ fa.drop 23 := by rw [h2]; exact List.mem_append_left _ h1
      exact List.mem_of_mem_drop h3
    exact He.free_ok X G (c.t.d.facts hm)
  obtain ⟨fd_divisor_of, F_divisor_of⟩ := c.t.d.def_ 0 (d := d_divisor_of) rfl
  obtain ⟨fd_lowest, F_lowest⟩ := c.t.d.def_ 1 (d := d_lowest) rfl
  obtain ⟨fd_table_of, F_table_of⟩ := c.t.d.def_ 2 (d := d_table_of) rfl
  obtain ⟨fd_Turn__table, F_Turn__table⟩ := c.t.d.def_ 3 (d := d_Turn__table) rfl
  obtain ⟨fd__law_cell, F__law_cell⟩ := c.t.d.def_ 4 (d := d__law_cell) rfl
  obtain ⟨fd__law_number, F__law_number⟩ := c.t.d.def_ 5 (d := d__law_number) rfl
  obtain ⟨fd__law_spot, F__law_spot⟩ := c.t.d.def_ 6 (d := d__law_spot) rfl
  obtain ⟨fd_as_told, F_as_told⟩ := c.t.d.def_ 7 (d := d_as_told) rfl
  obtain ⟨fd_Turn___init__, F_Turn___init__⟩ := c.t.d.def_ 8 (d := d_Turn___init__) rfl
  obtain ⟨fd_corner_number, F_corner_number⟩ := c.t.d.def_ 9 (d := d_corner_number) rfl
  obtain ⟨fd_plain_product, F_plain_product⟩ := c.t.d.def_ 10 (d := d_plain_product) rfl
  obtain ⟨fd_Turn__number, F_Turn__number⟩ := c.t.d.def_ 11 (d := d_Turn__number) rfl
  obtain ⟨fd_Turn__behind, F_Turn__behind⟩ := c.t.d.def_ 12 (d := d_Turn__behind) rfl
  obtain ⟨fd_summed, F_summed⟩ := c.t.d.def_ 13 (d := d_summed) rfl
  obtain ⟨fd_place_by, F_place_by⟩ := c.t.d.def_ 14 (d := d_place_by) rfl
  obtain ⟨fd_Turn__place, F_Turn__place⟩ := c.t.d.def_ 15 (d := d_Turn__place) rfl
  obtain ⟨fd__law_along, F__law_along⟩ := c.t.d.def_ 16 (d := d__law_along) rfl
  obtain ⟨fd__law_row, F__law_row⟩ := c.t.d.def_ 17 (d := d__law_row) rfl
  obtain ⟨fd_behind, F_behind⟩ := c.t.d.def_ 18 (d := d_behind) rfl
  obtain ⟨fd__law_divisor, F__law_divisor⟩ := c.t.d.def_ 19 (d := d__law_divisor) rfl
  obtain ⟨fd__law_told, F__law_told⟩ := c.t.d.def_ 20 (d := d__law_told) rfl
  obtain ⟨fd__law_whole, F__law_whole⟩ := c.t.d.def_ 21 (d := d__law_whole) rfl
  obtain ⟨fd__law_tuple, F__law_tuple⟩ := c.t.d.def_ 22 (d := d__law_tuple) rfl
  obtain ⟨fd__law_place, F__law_place⟩ := c.t.d.def_ 23 (d := d__law_place) rfl
  obtain ⟨fd_stays, F_stays⟩ := c.t.d.def_ 24 (d := d_stays) rfl
  obtain ⟨fd__law_whole_way, F__law_whole_way⟩ := c.t.d.def_ 25 (d := d__law_whole_way) rfl
  obtain ⟨fd_Turn__back, F_Turn__back⟩ := c.t.d.def_ 26 (d := d_Turn__back) rfl
  obtain ⟨fd__law_product, F__law_product⟩ := c.t.d.def_ 27 (d := d__law_product) rfl
  obtain ⟨fd_law, F_law⟩ := c.t.d.def_ 28 (d := d_law) rfl
  have e := hfa.symm.trans (He.glo_ok X G (c.t.d.fact 22 (f := .glo "law") rfl))
  cases e
  have b := FunD.bindsA (ps := ["_law_script"]) F_law fun _ _ _ _ _ _ us hl => match us, hl with | [_], _ => rfl
  refine ⟨fd_law, fun s v => b s [v] rfl, fun base _ _ => ?_⟩
  have hF_kept : ∀ C ∈ cs_kept, Cls K (He.ga K C) ∧ NoAttr K (He.ga K C) "kept" := List.forall_mem_cons.2 ⟨⟨He.cls_ok (c.t.d.fact 44 (f := .cls "Turn") rfl), He.noat_ok (c.t.d.fact 45 (f := .noat "Turn" "kept") rfl)⟩, fun _ h => nomatch h⟩
  have G_divisor_of : Dn P w K mg base "divisor_of" 2 f_divisor_of := mkDn F_divisor_of (ok_divisor_of F_divisor_of g0) (He.glo_ok X G (c.t.d.fact 0 (f := .glo "divisor_of") rfl)) fun _ _ _ _ _ _ us hl => match us, hl with | [_], _ => rfl
  have G_lowest : Dn P w K mg base "lowest" 4 f_lowest := mkDn F_lowest (ok_lowest F_lowest g0 G_divisor_of) (He.glo_ok X G (c.t.d.fact 1 (f := .glo "lowest") rfl)) fun _ _ _ _ _ _ us hl => match us, hl with | [_], _ => rfl
  have G_table_of : Dn P w K mg base "table_of" 6 f_table_of := mkDn F_table_of (ok_table_of F_table_of g0 G_lowest) (He.glo_ok X G (c.t.d.fact 2 (f := .glo "table_of") rfl)) fun _ _ _ _ _ _ us hl => match us, hl with | [_], _ => rfl
  have M_Turn__table : Mt P w K mg base "Turn" "table" 8 f_Turn_table := mkMt F_Turn__table (ok_Turn_table F_Turn__table g0 G_table_of hF_kept) (He.cls_ok (c.t.d.fact 44 (f := .cls "Turn") rfl)) (He.meth_ok (c.t.d.fact 46 (f := .meth "Turn" "table") rfl)) fun _ _ _ _ _ _ us hl => match us, hl with | [_], _ => rfl
  have hM_table : ∀ q ∈ tb_table, Mt P w K mg base q.1 "table" 8 q.2 := List.forall_mem_cons.2 ⟨M_Turn__table, fun _ h => nomatch h⟩
  have G__law_cell : Dn P w K mg base "_law_cell" 2 f__law_cell := mkDn F__law_cell (ok__law_cell F__law_cell g0) (He.glo_ok X G (c.t.d.fact 3 (f := .glo "_law_cell") rfl)) fun _ _ _ _ _ _ us hl => match us, hl with | [_, _], _ => rfl
  have G__law_number : Dn P w K mg base "_law_number" 2 f__law_number := mkDn F__law_number (ok__law_number F__law_number g0) (He.glo_ok X G (c.t.d.fact 4 (f := .glo "_law_number") rfl)) fun _ _ _ _ _ _ us hl => match us, hl with | [_, _], _ => rfl
  have G__law_spot : Dn P w K mg base "_law_spot" 4 f__law_spot := mkDn F__law_spot (ok__law_spot F__law_spot g0 G__law_cell G__law_number) (He.glo_ok X G (c.t.d.fact 5 (f := .glo "_law_spot") rfl)) fun _ _ _ _ _ _ us hl => match us, hl with | [_, _], _ => rfl
  have G_as_told : Dn P w K mg base "as_told" 4 f_as_told := mkDn F_as_told (ok_as_told F_as_told g0 G_divisor_of) (He.glo_ok X G (c.t.d.fact 6 (f := .glo "as_told") rfl)) fun _ _ _ _ _ _ us hl => match us, hl with | [_], _ => rfl
  have I_Turn : Mi P w K mg base "Turn" "kept" 6 f_Turn___init__ := mkMi F_Turn___init__ (ok_Turn___init__ F_Turn___init__ g0 G_as_told) (He.cls_ok (c.t.d.fact 44 (f := .cls "Turn") rfl)) (He.noat_ok (c.t.d.fact 45 (f := .noat "Turn" "kept") rfl)) (He.mkr_ok (c.t.d.fact 47 (f := .mkr "Turn") rfl)) (He.glo_ok X G (c.t.d.fact 48 (f := .glo "Turn") rfl)) fun _ _ _ _ _ _ us hl => match us, hl with | [_, _], _ => rfl
  have G_corner_number : Dn P w K mg base "corner_number" 10 f_corner_number := mkDn F_corner_number (ok_corner_number F_corner_number g0 hM_table) (He.glo_ok X G (c.t.d.fact 7 (f := .glo "corner_number") rfl)) fun _ _ _ _ _ _ us hl => match us, hl with | [_], _ => rfl
  have G_plain_product : Dn P w K mg base "plain_product" 2 f_plain_product := mkDn F_plain_product (ok_plain_product F_plain_product g0) (He.glo_ok X G (c.t.d.fact 8 (f := .glo "plain_product") rfl)) fun _ _ _ _ _ _ us hl => match us, hl with | [_, _], _ => rfl
  have M_Turn__number : Mt P w K mg base "Turn" "number" 2 f_Turn_number := mkMt F_Turn__number (ok_Turn_number F_Turn__number g0 hF_kept) (He.cls_ok (c.t.d.fact 44 (f := .cls "Turn") rfl)) (He.meth_ok (c.t.d.fact 49 (f := .meth "Turn" "number") rfl)) fun _ _ _ _ _ _ us hl => match us, hl with | [_], _ => rfl
  have hM_number : ∀ q ∈ tb_number, Mt P w K mg base q.1 "number" 2 q.2 := List.forall_mem_cons.2 ⟨M_Turn__number, fun _ h => nomatch h⟩
  have M_Turn__behind : Mt P w K mg base "Turn" "behind" 9 f_Turn_behind := mkMt F_Turn__behind (ok_Turn_behind F_Turn__behind g0 G_plain_product hF_kept hM_number I_Turn) (He.cls_ok (c.t.d.fact 44 (f := .cls "Turn") rfl)) (He.meth_ok (c.t.d.fact 50 (f := .meth "Turn" "behind") rfl)) fun _ _ _ _ _ _ us hl => match us, hl with | [_, _], _ => rfl
  have hM_behind : ∀ q ∈ tb_behind, Mt P w K mg base q.1 "behind" 9 q.2 := List.forall_mem_cons.2 ⟨M_Turn__behind, fun _ h => nomatch h⟩
  have G_summed : Dn P w K mg base "summed" 2 f_summed := mkDn F_summed (ok_summed F_summed g0) (He.glo_ok X G (c.t.d.fact 9 (f := .glo "summed") rfl)) fun _ _ _ _ _ _ us hl => match us, hl with | [_, _], _ => rfl
  have G_place_by : Dn P w K mg base "place_by" 4 f_place_by := mkDn F_place_by (ok_place_by F_place_by g0 G_divisor_of G_summed) (He.glo_ok X G (c.t.d.fact 10 (f := .glo "place_by") rfl)) fun _ _ _ _ _ _ us hl => match us, hl with | [_, _], _ => rfl
  have M_Turn__place : Mt P w K mg base "Turn" "place" 10 f_Deed_place := mkMt F_Turn__place (ok_Deed_place F_Turn__place g0 G_place_by hM_table) (He.cls_ok (c.t.d.fact 44 (f := .cls "Turn") rfl)) (He.meth_ok (c.t.d.fact 51 (f := .meth "Turn" "place") rfl)) fun _ _ _ _ _ _ us hl => match us, hl with | [_, _], _ => rfl
  have hM_place : ∀ q ∈ tb_place, Mt P w K mg base q.1 "place" 10 q.2 := List.forall_mem_cons.2 ⟨M_Turn__place, fun _ h => nomatch h⟩
  have G__law_along : Dn P w K mg base "_law_along" 12 f__law_along := mkDn F__law_along (ok__law_along F__law_along g0 hM_place) (He.glo_ok X G (c.t.d.fact 11 (f := .glo "_law_along") rfl)) fun _ _ _ _ _ _ us hl => match us, hl with | [_, _], _ => rfl
  have G__law_row : Dn P w K mg base "_law_row" 4 f__law_row := mkDn F__law_row (ok__law_row F__law_row g0 G__law_cell) (He.glo_ok X G (c.t.d.fact 12 (f := .glo "_law_row") rfl)) fun _ _ _ _ _ _ us hl => match us, hl with | [_, _], _ => rfl
  have G_behind : Dn P w K mg base "behind" 6 f_behind := mkDn F_behind (ok_behind F_behind g0 G_lowest G_summed) (He.glo_ok X G (c.t.d.fact 13 (f := .glo "behind") rfl)) fun _ _ _ _ _ _ us hl => match us, hl with | [_, _], _ => rfl
  have G__law_divisor : Dn P w K mg base "_law_divisor" 2 f__law_divisor := mkDn F__law_divisor (ok__law_divisor F__law_divisor g0) (He.glo_ok X G (c.t.d.fact 14 (f := .glo "_law_divisor") rfl)) fun _ _ _ _ _ _ us hl => match us, hl with | [_], _ => rfl
  have G__law_told : Dn P w K mg base "_law_told" 4 f__law_told := mkDn F__law_told (ok__law_told F__law_told g0 G__law_divisor) (He.glo_ok X G (c.t.d.fact 15 (f := .glo "_law_told") rfl)) fun _ _ _ _ _ _ us hl => match us, hl with | [_], _ => rfl
  have G__law_whole : Dn P w K mg base "_law_whole" 2 f__law_whole := mkDn F__law_whole (ok__law_whole F__law_whole g0) (He.glo_ok X G (c.t.d.fact 16 (f := .glo "_law_whole") rfl)) fun _ _ _ _ _ _ us hl => match us, hl with | [_], _ => rfl
  have G__law_tuple : Dn P w K mg base "_law_tuple" 4 f__law_tuple := mkDn F__law_tuple (ok__law_tuple F__law_tuple g0 G__law_whole) (He.glo_ok X G (c.t.d.fact 17 (f := .glo "_law_tuple") rfl)) fun _ _ _ _ _ _ us hl => match us, hl with | [_, _], _ => rfl
  have G__law_place : Dn P w K mg base "_law_place" 6 f__law_place := mkDn F__law_place (ok__law_place F__law_place g0 G__law_divisor G__law_tuple G__law_whole) (He.glo_ok X G (c.t.d.fact 18 (f := .glo "_law_place") rfl)) fun _ _ _ _ _ _ us hl => match us, hl with | [_, _, _], _ => rfl
  have G_stays : Dn P w K mg base "stays" 12 f_stays := mkDn F_stays (ok_stays F_stays g0 hM_place) (He.glo_ok X G (c.t.d.fact 19 (f := .glo "stays") rfl)) fun _ _ _ _ _ _ us hl => match us, hl with | [_, _], _ => rfl
  have G__law_whole_way : Dn P w K mg base "_law_whole_way" 14 f__law_whole_way := mkDn F__law_whole_way (ok__law_whole_way F__law_whole_way g0 G_stays hM_place) (He.glo_ok X G (c.t.d.fact 20 (f := .glo "_law_whole_way") rfl)) fun _ _ _ _ _ _ us hl => match us, hl with | [_, _], _ => rfl
  have M_Turn__back : Mt P w K mg base "Turn" "back" 9 f_Turn_back := mkMt F_Turn__back (ok_Turn_back F_Turn__back g0 hF_kept I_Turn) (He.cls_ok (c.t.d.fact 44 (f := .cls "Turn") rfl)) (He.meth_ok (c.t.d.fact 52 (f := .meth "Turn" "back") rfl)) fun _ _ _ _ _ _ us hl => match us, hl with | [_], _ => rfl
  have hM_back : ∀ q ∈ tb_back, Mt P w K mg base q.1 "back" 9 q.2 := List.forall_mem_cons.2 ⟨M_Turn__back, fun _ h => nomatch h⟩
  have G__law_product : Dn P w K mg base "_law_product" 2 f__law_product := mkDn F__law_product (ok__law_product F__law_product g0) (He.glo_ok X G (c.t.d.fact 21 (f := .glo "_law_product") rfl)) fun _ _ _ _ _ _ us hl => match us, hl with | [_, _], _ => rfl
  exact ok_law F_law g0 G__law_along G__law_cell G__law_place G__law_product G__law_row G__law_spot G__law_told G__law_whole_way G_behind G_corner_number hM_back hM_behind hM_number hM_place hM_table I_Turn
end HD
open PySem PySem.W PySem.Calls PyProof.Rows
theorem HD.holds_of (hk : HD.Keeps HD.f_law) : PySem.Challenge.rw_spaceturns_k60_whole_chains_of_turns.Holds := by
  w_on; o_law
  refine HandSHeadRun.head_any (r := OpenLaw.row PySem.Challenge.rw_spaceturns_k60_whole_chains_of_turns) (q := view (OpenLaw.row PySem.Challenge.rw_spaceturns_k60_whole_chains_of_turns).prog [34]) (H := HD.hk) (ob := HD.ob) (M := 4000) (loose := HD.nms) (d := HandSHeadRun.topDef (OpenLaw.row PySem.Challenge.rw_spaceturns_k60_whole_chains_of_turns).prog 34) (kwd := []) HD.ob_eq
    (by kernel_rfl) (fun s => by kernel_rfl) HD.run (by kernel_rfl) (by kernel_rfl) (by kernel_rfl) (by rfl) (by first | assumption | decide +kernel) (by decide +kernel) ⟨rfl, rfl, rfl, rfl, rfl, by decide +kernel⟩ ?hw ?hc
  case hw => w_witness2
  case hc =>
    refine HD.walk_D (l := PySem.Challenge.rw_spaceturns_k60_whole_chains_of_turns) (k := 16) (x := "_law_script") rfl (by kernel_rfl) ⟨rfl, by decide, by decide⟩ hk ?F
    intro w mg fa h Y G hmg0
    obtain ⟨K, KX, c⟩ := Y
    have hmg : mg ("law" : PySem.Str) = some (.ref fa) := by
      have e : (HandSHeadRun.topDef (OpenLaw.row PySem.Challenge.rw_spaceturns_k60_whole_chains_of_turns).prog 34).name = ("law" : PySem.Str) := by kernel_rfl
      rw [← e]
      exact hmg0
    obtain ⟨fd, hb, hF⟩ := HD.facts (P := (PySem.Challenge.rw_spaceturns_k60_whole_chains_of_turns).prog) (w := w) KX G hmg c
    exact ⟨K, fd, KX, hb, hF⟩
theorem PySem.Challenge.cw_spaceturns_k60_whole_chains_of_turns_holds : PySem.Challenge.rw_spaceturns_k60_whole_chains_of_turns.Holds := by
  exact HD.holds_of HD.law_holds
