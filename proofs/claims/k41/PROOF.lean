import PyProof.Rows.All
import Wide.All
import OpenK.AllK
import Wide.FinOn
import HandS.ForMost
import HandS.ForExc
import HandS.Defaults
import HandS.Flow
import HandS.Zip
import HandS.Rev
import HandS.TupAny
import HandS.TupMul
import HandS.TupLe
import HandS.Deep
import HandS.IsInst
import HandS.WideBits
import HandS.HeadHook4
import HandS.Small
import HandS.Walk
import HandS.Ends
import HandS.EndBits
import HandS.Head0
import HandS.Head1
import HandS.Head2
import HandS.HeadEnd
import KE.GoesEnum
import HandS.NoneIn
import HandS.ExcOwn
import HandS.ExcValue
import HandS.ExcField
import KE.KExcIs
import PyProof.ExcBaseAll.ValueError
import HandS.Text
import HandS.Codes
import HandS.WrittenGet
import PyProof.DictStraight
import KE.KxAffix
import HandS.SortRule
import HandS.SortInts
import HandS.SortKw
import HandS.ExcInit
import HandS.RevTup
import PyProof.ListRange
import HandS.SetFor
import KE.DataMinMax
import KE.SortData
import PyProof.Rows.RowBridgeK
import HandS.TupSets
import PySem.Challenge.RW_spaceturns_k41_texts_of_no_deed
set_option Elab.async false
set_option linter.all false
set_option maxRecDepth 100000
set_option maxHeartbeats 4000000
/-! HDa: data D, what represents it in a heap, frozen heaps and owned objects, readings by functions on data. -/
namespace HD
open PySem PySem.Spec PyProof.Rows L2
abbrev Sg := L2.St

/-! ### data -/
inductive D where
  | non | bl (b : Bool) | int (i : Int) | str (x : Str)
  | tup (l : List D) | lst (l : List D) | scr (l : List D)
  | dic (l : List (D × D)) | dit (l : List (D × D))
  | ins (C : Str) (fs : List (Str × D))
  | exn (C : Str) (fs : List (Str × D))
instance : Inhabited D := ⟨.non⟩
/-- a value: shared, or a new object that nobody else has -/
inductive Vn | v (d : D) | n (d : D)
inductive Rs | v (d : D) | n (d : D) | x (e : D)
def Vn.r : Vn → Rs | .v d => .v d | .n d => .n d
def Vn.d : Vn → D | .v d => d | .n d => d
inductive Slot | un | sh (d : D) | own (d : D)
def Slot.val : Slot → Option D | .un => none | .sh d => some d | .own d => some d
abbrev En := List Slot
abbrev Ev := En → Option Rs
def getv (env : En) (i : Nat) : Option D := (env[i]?).bind Slot.val

/-! ### flat data: no list, no dict within -/
mutual
def D.flat : D → Bool
  | .non | .bl _ | .int _ | .str _ => true
  | .tup l => D.flats l
  | _ => false
def D.flats : List D → Bool
  | [] => true
  | d :: r => d.flat && D.flats r
end
def D.isLs : D → Bool
  | .lst _ => true
  | _ => false
/-- a new object whose items are flat -/
def D.flatN : D → Bool
  | .lst l => D.flats l
  | .dic [] => true
  | .dic l => l.all fun p => p.1.flat && p.2.flat
  | .dit l => l.all fun p => p.1.flat && p.2.flat
  | _ => false
/-- a key as data -/
def kD : Key → D
  | .inl i => .int i
  | .inr z => .str z

/-! ### what represents data -/
/-- an exception of the class cls, its dict d, at a -/
def Xv (cls : Value) (d : Option Addr) (a : Addr) : HO := .ext fun h => ∃ (oe : Obj) (vs : Array Value), h.get? a = some oe ∧ Zc cls d oe ∧ oe.data = .fields vs
/-- four whole numbers, not all of them nought -/
def four4 : List V → Bool
  | [.int a, .int b, .int c, .int d] => !(decide (a = 0) && decide (b = 0) && decide (c = 0) && decide (d = 0))
  | _ => false
/-- a tuple that is tracked (and not locked), or a constant that is not four whole numbers -/
def SqU (K : PySem.W.Frag) (H : Hp) (a : Addr) (xs : List V) : Prop := H a = some (.tup xs) ∨
  four4 xs = false ∧ ∃ (o : Obj) (its : Array Value) (n : Nat), K.lookup a = some o ∧ o.cls = .type "tuple" ∧ o.data = .seq its n ∧ its.size ≤ sizeLine ∧ Vals xs its.toList
theorem SqU.t {K : PySem.W.Frag} {H : Hp} {a : Addr} {xs : List V} (h : SqU K H a xs) : SqT K H a xs := h.elim (fun e => .inl (.inl e)) fun e => .inr e.2
instance {K : PySem.W.Frag} {H : Hp} {a : Addr} {xs : List V} : Coe (SqU K H a xs) (SqT K H a xs) := ⟨SqU.t⟩
theorem SqU.ofC {K : PySem.W.Frag} {a : Addr} {xs : List V} (h : ∀ H, SqT K H a xs) (h4 : four4 xs = false) (H : Hp) : SqU K H a xs := by
  rcases h fun _ => none with (e | ⟨o, e⟩) | e
  · cases e
  · cases e
  · exact .inr ⟨h4, e⟩
theorem same_squ {K : PySem.W.Frag} {H H' : Hp} {a : Addr} {xs : List V} (e : Same H H') (h : SqU K H a xs) : SqU K H' a xs := h.elim (fun z => .inl (e _ _ z)) .inr
mutual
inductive Rep (K : PySem.W.Frag) (H : Hp) : V → D → Prop
  | non : Rep K H .non .non
  | bl (b : Bool) : Rep K H (.bl b) (.bl b)
  | int (i : Int) : Rep K H (.int i) (.int i)
  | str (x : Str) : Rep K H (.str x) (.str x)
  | tup {a : Addr} {xs : List V} {ds : List D} : SqU K H a xs → Reps K H xs ds → Rep K H (.ref a) (.tup ds)
  | lst {a : Addr} {xs : List V} {ds : List D} : H a = some (.lst xs) → Reps K H xs ds → Rep K H (.ref a) (.lst ds)
  | scr {a : Addr} {xs : List V} {ds : List D} : SqL K H a xs → Reps K H xs ds → Rep K H (.ref a) (.scr ds)
  | ins {a dx : Addr} {C : Str} {fs : List (Str × V)} {gs : List (Str × D)} : H a = some (.ins (He.ga K C) dx fs) → RepF K H fs gs → Rep K H (.ref a) (.ins C gs)
  | exn {a : Addr} {dd : Option Addr} {C : Str} {gs : List (Str × D)} : H a = some (Xv (.ref (He.ga K C)) dd a) → RepD K H dd gs → Rep K H (.ref a) (.exn C gs)
  | dic {a : Addr} {kvs : List (Key × V)} {l : List (D × D)} : H a = some (.dK kvs) → RepK K H kvs l → Rep K H (.ref a) (.dic l)
  | dit {a : Addr} {kvs : List (List Key × V)} {l : List (D × D)} : H a = some (.dT kvs) → RepT K H kvs l → Rep K H (.ref a) (.dit l)
inductive Reps (K : PySem.W.Frag) (H : Hp) : List V → List D → Prop
  | nil : Reps K H [] []
  | cons {v : V} {vs : List V} {d : D} {ds : List D} : Rep K H v d → Reps K H vs ds → Reps K H (v :: vs) (d :: ds)
inductive RepF (K : PySem.W.Frag) (H : Hp) : List (Str × V) → List (Str × D) → Prop
  | nil : RepF K H [] []
  | cons {f : Str} {v : V} {fs : List (Str × V)} {d : D} {gs : List (Str × D)} : Rep K H v d → RepF K H fs gs → RepF K H ((f, v) :: fs) ((f, d) :: gs)
inductive RepD (K : PySem.W.Frag) (H : Hp) : Option Addr → List (Str × D) → Prop
  | none : RepD K H none []
  | some {a : Addr} {fs : List (Str × V)} {gs : List (Str × D)} : H a = some (.xd fs) → RepF K H fs gs → RepD K H (some a) gs
inductive RepK (K : PySem.W.Frag) (H : Hp) : List (Key × V) → List (D × D) → Prop
  | nil : RepK K H [] []
  | cons {k : Key} {v : V} {kvs : List (Key × V)} {d : D} {l : List (D × D)} : Rep K H v d → RepK K H kvs l → RepK K H ((k, v) :: kvs) ((kD k, d) :: l)
inductive RepT (K : PySem.W.Frag) (H : Hp) : List (List Key × V) → List (D × D) → Prop
  | nil : RepT K H [] []
  | cons {k : List Key} {v : V} {kvs : List (List Key × V)} {d : D} {l : List (D × D)} : Rep K H v d → RepT K H kvs l → RepT K H ((k, v) :: kvs) ((.tup (k.map kD), d) :: l)
end
theorem same_sqt {K : PySem.W.Frag} {H H' : Hp} {a : Addr} {xs : List V} (e : Same H H') (h : SqT K H a xs) : SqT K H' a xs := by
  rcases h with (h | ⟨o, h⟩) | h
  · exact .inl (.inl (e _ _ h))
  · exact .inl (.inr ⟨o, e _ _ h⟩)
  · exact .inr h
section
variable {K : PySem.W.Frag} {H H' : Hp}
mutual
theorem Rep.mono (e : Same H H') : ∀ {v : V} {d : D}, Rep K H v d → Rep K H' v d
  | _, _, .non => .non
  | _, _, .bl b => .bl b
  | _, _, .int i => .int i
  | _, _, .str x => .str x
  | _, _, .tup h r => .tup (same_squ e h) (Reps.mono e r)
  | _, _, .lst h r => .lst (e _ _ h) (Reps.mono e r)
  | _, _, .scr h r => .scr (e.seq h) (Reps.mono e r)
  | _, _, .ins h r => .ins (e _ _ h) (RepF.mono e r)
  | _, _, .exn h r => .exn (e _ _ h) (RepD.mono e r)
  | _, _, .dic h r => .dic (e _ _ h) (RepK.mono e r)
  | _, _, .dit h r => .dit (e _ _ h) (RepT.mono e r)
theorem Reps.mono (e : Same H H') : ∀ {v : List V} {d : List D}, Reps K H v d → Reps K H' v d
  | _, _, .nil => .nil
  | _, _, .cons h r => .cons (Rep.mono e h) (Reps.mono e r)
theorem RepF.mono (e : Same H H') : ∀ {v : List (Str × V)} {d : List (Str × D)}, RepF K H v d → RepF K H' v d
  | _, _, .nil => .nil
  | _, _, .cons h r => .cons (Rep.mono e h) (RepF.mono e r)
theorem RepD.mono (e : Same H H') : ∀ {v : Option Addr} {d : List (Str × D)}, RepD K H v d → RepD K H' v d
  | _, _, .none => .none
  | _, _, .some h r => .some (e _ _ h) (RepF.mono e r)
theorem RepK.mono (e : Same H H') : ∀ {v : List (Key × V)} {d : List (D × D)}, RepK K H v d → RepK K H' v d
  | _, _, .nil => .nil
  | _, _, .cons h r => .cons (Rep.mono e h) (RepK.mono e r)
theorem RepT.mono (e : Same H H') : ∀ {v : List (List Key × V)} {d : List (D × D)}, RepT K H v d → RepT K H' v d
  | _, _, .nil => .nil
  | _, _, .cons h r => .cons (Rep.mono e h) (RepT.mono e r)
end
theorem Reps.length : ∀ {vs : List V} {ds : List D}, Reps K H vs ds → vs.length = ds.length
  | _, _, .nil => rfl
  | _, _, .cons _ r => congrArg (· + 1) r.length
theorem Reps.append : ∀ {vs ws : List V} {ds es : List D}, Reps K H vs ds → Reps K H ws es → Reps K H (vs ++ ws) (ds ++ es)
  | _, _, _, _, .nil, s => s
  | _, _, _, _, .cons h r, s => .cons h (Reps.append r s)
theorem Reps.get : ∀ {vs : List V} {ds : List D} {i : Nat} {d : D}, Reps K H vs ds → ds[i]? = some d → ∃ v, vs[i]? = some v ∧ Rep K H v d
  | _, _, _, _, .nil, e => by simp at e
  | _, _, 0, _, .cons h _, e => by simp at e; subst e; exact ⟨_, rfl, h⟩
  | _, _, i + 1, d, .cons _ r, e => by
    obtain ⟨v, a, b⟩ := Reps.get (i := i) (d := d) r (by simpa using e)
    exact ⟨v, by simpa using a, b⟩
theorem Reps.getV : ∀ {vs : List V} {ds : List D} {i : Nat} {v : V}, Reps K H vs ds → vs[i]? = some v → ∃ d, ds[i]? = some d ∧ Rep K H v d
  | _, _, _, _, .nil, e => by simp at e
  | _, _, 0, _, .cons h _, e => by simp at e; subst e; exact ⟨_, rfl, h⟩
  | _, _, i + 1, d, .cons _ r, e => by
    obtain ⟨v, a, b⟩ := Reps.getV (i := i) (v := d) r (by simpa using e)
    exact ⟨v, by simpa using a, b⟩
theorem Reps.drop : ∀ {vs : List V} {ds : List D} (n : Nat), Reps K H vs ds → Reps K H (vs.drop n) (ds.drop n)
  | _, _, 0, r => r
  | _, _, _ + 1, .nil => .nil
  | _, _, n + 1, .cons _ r => Reps.drop n r
theorem Reps.take : ∀ {vs : List V} {ds : List D} (n : Nat), Reps K H vs ds → Reps K H (vs.take n) (ds.take n)
  | _, _, 0, _ => .nil
  | _, _, _ + 1, .nil => .nil
  | _, _, n + 1, .cons h r => .cons h (Reps.take n r)
theorem Reps.set {x : V} {d : D} (h : Rep K H x d) : ∀ {vs : List V} {ds : List D} (n : Nat), Reps K H vs ds → Reps K H (vs.set n x) (ds.set n d)
  | _, _, _, .nil => .nil
  | _, _, 0, .cons _ r => .cons h r
  | _, _, n + 1, .cons q r => .cons q (Reps.set h n r)
theorem Reps.rev : ∀ {vs : List V} {ds : List D}, Reps K H vs ds → Reps K H vs.reverse ds.reverse
  | _, _, .nil => .nil
  | _, _, .cons h r => by
    rw [List.reverse_cons, List.reverse_cons]
    exact (Reps.rev r).append (.cons h .nil)
theorem Reps.flatten : ∀ (n : Nat) {vs : List V} {ds : List D}, Reps K H vs ds → Reps K H (List.replicate n vs).flatten (List.replicate n ds).flatten
  | 0, _, _, _ => .nil
  | n + 1, _, _, r => by
    rw [List.replicate_succ, List.replicate_succ, List.flatten_cons, List.flatten_cons]
    exact r.append (Reps.flatten n r)
end

/-! ### extension -/
/-- (Hs, H) grows to (Hs', H'): what was tracked stays; the frozen part grows by new things alone -/
structure Ext (Hs H Hs' H' : Hp) : Prop where
  s : Same Hs Hs'
  h : Same H H'
  sub : Same Hs' H'
  new : ∀ a, Hs a = none → H a ≠ none → Hs' a = none
section
variable {Hs H Hs' H' Hs'' H'' : Hp}
theorem Ext.refl (s : Same Hs H) : Ext Hs H Hs H := ⟨Same.refl _, Same.refl _, s, fun _ h _ => h⟩
theorem Ext.trans (a : Ext Hs H Hs' H') (b : Ext Hs' H' Hs'' H'') : Ext Hs H Hs'' H'' :=
  ⟨a.s.trans b.s, a.h.trans b.h, b.sub, fun c h1 h2 => b.new c (a.new c h1 h2) fun z => by
    cases q : H c with
    | none => exact h2 q
    | some o => rw [a.h c o q] at z; cases z⟩
theorem same_upd {H : Hp} {p : Addr} {o : HO} (h : H p = none) : Same H (upd H p o) := fun b u e => by
  rw [upd_ne (ne_of_none e h)]; exact e
/-- a new thing, frozen -/
theorem Ext.laid {p : Addr} {o : HO} (a : Ext Hs H Hs' H') (n : H' p = none) : Ext Hs H (upd Hs' p o) (upd H' p o) := by
  have ns : Hs' p = none := a.sub.free n
  refine a.trans ⟨same_upd ns, same_upd n, fun b u e => ?_, fun c h1 h2 => ?_⟩
  · by_cases hb : b = p
    · subst hb; rw [upd_same] at e ⊢; exact e
    · rw [upd_ne hb] at e ⊢; exact a.sub b u e
  · rw [upd_ne (fun z => h2 (by rw [z]; exact n))]; exact h1
/-- a new thing, not frozen -/
theorem Ext.laidN {p : Addr} {o : HO} (a : Ext Hs H Hs' H') (n : H' p = none) : Ext Hs H Hs' (upd H' p o) :=
  a.trans ⟨Same.refl _, same_upd n, a.sub.trans (same_upd n), fun _ h _ => h⟩
/-- a thing that was laid since, and not frozen, is frozen -/
theorem Ext.freeze {p : Addr} {o : HO} (a : Ext Hs H Hs' H') (n : H p = none) (ns : Hs' p = none) (e : H' p = some o) : Ext Hs H (upd Hs' p o) H' :=
  ⟨a.s.trans (same_upd ns), a.h, fun b u q => by
    by_cases hb : b = p
    · subst hb; rw [upd_same] at q; rw [← q]; exact e
    · rw [upd_ne hb] at q; exact a.sub b u q, fun c h1 h2 => by
    rw [upd_ne (fun z => h2 (by rw [z]; exact n))]; exact a.new c h1 h2⟩
/-- .. is changed -/
theorem Ext.mut {p : Addr} {o : HO} (a : Ext Hs H Hs' H') (n : H p = none) (ns : Hs' p = none) : Ext Hs H Hs' (upd H' p o) :=
  ⟨a.s, fun b u q => by rw [upd_ne (ne_of_none q n)]; exact a.h b u q, fun b u q => by
    rw [upd_ne (ne_of_none q ns)]; exact a.sub b u q, a.new⟩
end

/-! ### owned objects -/
inductive RepO (K : PySem.W.Frag) (Hs : Hp) : HO → D → Prop
  | lst {xs : List V} {ds : List D} : Reps K Hs xs ds → RepO K Hs (.lst xs) (.lst ds)
  | dic {kvs : List (Key × V)} {l : List (D × D)} : RepK K Hs kvs l → RepO K Hs (.dK kvs) (.dic l)
  | dit {kvs : List (List Key × V)} {l : List (D × D)} : RepT K Hs kvs l → RepO K Hs (.dT kvs) (.dit l)
section
variable {K : PySem.W.Frag} {Hs H Hs' H' Hs'' H'' : Hp} {v : V} {d : D} {o : HO} {ps qs : List Addr}
theorem RepO.mono (e : Same Hs Hs') (h : RepO K Hs o d) : RepO K Hs' o d := by
  cases h with
  | lst r => exact .lst (r.mono e)
  | dic r => exact .dic (r.mono e)
  | dit r => exact .dit (r.mono e)
/-- frozen, it is a value -/
theorem RepO.rep {p : Addr} (h : RepO K Hs o d) (e : Hs p = some o) : Rep K Hs (.ref p) d := by
  cases h with
  | lst r => exact .lst e r
  | dic r => exact .dic e r
  | dit r => exact .dit e r
theorem RepO.notup (h : RepO K Hs o d) : (∀ xs, o ≠ .tup xs) ∧ ∀ ob u, o ≠ .frz ob u := by
  cases h with
  | lst r => exact ⟨fun _ z => (nomatch z), fun _ _ z => (nomatch z)⟩
  | dic r => exact ⟨fun _ z => (nomatch z), fun _ _ z => (nomatch z)⟩
  | dit r => exact ⟨fun _ z => (nomatch z), fun _ _ z => (nomatch z)⟩
/-- the items of a new tuple: a list that is nobody else's, or a shared value that is no list; ps: where the lists lie -/
inductive RepP (K : PySem.W.Frag) (H Hs' H' : Hp) : List Addr → List V → List D → Prop
  | nil : RepP K H Hs' H' [] [] []
  | own {p : Addr} {o : HO} {l : List D} {ps : List Addr} {xs : List V} {ds : List D} : H p = none → Hs' p = none → H' p = some o → RepO K Hs' o (.lst l) → p ∉ ps → RepP K H Hs' H' ps xs ds → RepP K H Hs' H' (p :: ps) (.ref p :: xs) (.lst l :: ds)
  | sh {x : V} {d : D} {ps : List Addr} {xs : List V} {ds : List D} : Rep K Hs' x d → d.isLs = false → RepP K H Hs' H' ps xs ds → RepP K H Hs' H' ps (x :: xs) (d :: ds)
/-- a new tuple of such items -/
def RepT2 (K : PySem.W.Frag) (H Hs' H' : Hp) (v : V) (d : D) : Prop := ∃ p ps xs ds, d = .tup ds ∧ v = .ref p ∧ H p = none ∧ Hs' p = none ∧ H' p = some (.tup xs) ∧ p ∉ ps ∧ RepP K H Hs' H' ps xs ds
/-- a new object that is nobody else's -/
def RepN (K : PySem.W.Frag) (H Hs' H' : Hp) (v : V) (d : D) : Prop := (∃ p o, v = .ref p ∧ H p = none ∧ Hs' p = none ∧ H' p = some o ∧ RepO K Hs' o d) ∨ RepT2 K H Hs' H' v d
theorem RepP.mono (n : ∀ p ∈ ps, Hs'' p = none) (e : Same Hs' Hs'') : ∀ {xs ds}, RepP K H Hs' H' ps xs ds → RepP K H Hs'' H' ps xs ds := fun h => by
  induction h with
  | nil => exact .nil
  | own a b c d e1 f ih => exact .own a (n _ (List.mem_cons_self ..)) c (d.mono e) e1 (ih fun q hq => n q (List.mem_cons_of_mem _ hq))
  | sh r z f ih => exact .sh (r.mono e) z (ih n)
theorem RepP.of {H0 : Hp} (a : Same H0 H) : ∀ {ps xs ds}, RepP K H Hs' H' ps xs ds → RepP K H0 Hs' H' ps xs ds := fun h => by
  induction h with
  | nil => exact .nil
  | own h1 h2 h3 h4 h5 _ ih => exact .own (a.free h1) h2 h3 h4 h5 ih
  | sh r z _ ih => exact .sh r z ih
theorem RepP.at {ps : List Addr} {xs : List V} {ds : List D} (h : RepP K H Hs' H' ps xs ds) : ∀ p ∈ ps, H p = none ∧ Hs' p = none ∧ ∃ o, H' p = some o := by
  induction h with
  | nil => exact fun p hp => nomatch hp
  | own h1 h2 h3 _ _ _ ih =>
    intro p hp
    rcases List.mem_cons.1 hp with rfl | hp
    · exact ⟨h1, h2, _, h3⟩
    · exact ih p hp
  | sh _ _ _ ih => exact ih
/-- frozen one by one -/
theorem RepP.share (P : Hp → Prop) (st : ∀ (Hs1 : Hp) (p : Addr) (o : HO), P Hs1 → p ∈ qs → Hs1 p = none → H' p = some o → P (upd Hs1 p o)) : ∀ {ps : List Addr} {xs : List V} {ds : List D} {Hs1 : Hp}, RepP K H Hs1 H' ps xs ds → (∀ p ∈ ps, p ∈ qs) → P Hs1 →
    ∃ Hs2, P Hs2 ∧ Same Hs1 Hs2 ∧ Reps K Hs2 xs ds ∧ ∀ a, a ∉ ps → Hs2 a = Hs1 a
  | _, _, _, Hs1, .nil, _, h => ⟨Hs1, h, Same.refl _, .nil, fun _ _ => rfl⟩
  | _, _, _, Hs1, .own (p := p) (o := o) h1 h2 h3 h4 h5 f, m, h => by
    have f1 : RepP K H (upd Hs1 p o) H' _ _ _ := f.mono (fun q hq => by rw [upd_ne (fun z => h5 (by rw [← z]; exact hq))]; exact (f.at q hq).2.1) (same_upd h2)
    obtain ⟨Hs2, g1, g2, g3, g4⟩ := RepP.share P st f1 (fun q hq => m q (List.mem_cons_of_mem _ hq)) (st Hs1 p o h (m p (List.mem_cons_self ..)) h2 h3)
    have e2 : Hs2 p = some o := by rw [g4 p h5]; exact upd_same
    refine ⟨Hs2, g1, (same_upd h2).trans g2, .cons ((h4.mono ((same_upd h2).trans g2)).rep e2) g3, fun a ha => ?_⟩
    rw [g4 a fun z => ha (List.mem_cons_of_mem _ z), upd_ne (fun z => ha (by rw [z]; exact List.mem_cons_self ..))]
  | _, _, _, Hs1, .sh r z f, m, h => by
    obtain ⟨Hs2, g1, g2, g3, g4⟩ := RepP.share P st f m h
    exact ⟨Hs2, g1, g2, .cons (r.mono g2) g3, g4⟩
theorem RepN.share (a : Ext Hs H Hs' H') (h : RepN K H Hs' H' v d) : ∃ Hs'', Ext Hs H Hs'' H' ∧ Rep K Hs'' v d := by
  rcases h with ⟨p, o, rfl, n, ns, e, r⟩ | ⟨p, ps, xs, ds, rfl, rfl, n, ns, e, np, r⟩
  · exact ⟨upd Hs' p o, a.freeze n ns e, (r.mono (same_upd ns)).rep upd_same⟩
  · obtain ⟨Hs2, g1, g2, g3, g4⟩ := RepP.share (qs := ps) (fun Hs1 => Ext Hs H Hs1 H') (fun Hs1 q o h hq hn he => h.freeze (r.at q hq).1 hn he) r (fun _ z => z) a
    have n2 : Hs2 p = none := by rw [g4 p np]; exact ns
    exact ⟨upd Hs2 p (.tup xs), g1.freeze n n2 e, .tup (.inl upd_same) (g3.mono (same_upd n2))⟩
theorem RepN.of {H0 : Hp} (a : Same H0 H) (h : RepN K H Hs' H' v d) : RepN K H0 Hs' H' v d := by
  rcases h with ⟨p, o, rfl, n, z⟩ | ⟨p, ps, xs, ds, h1, h2, n, ns, e, np, r⟩
  · exact .inl ⟨p, o, rfl, a.free n, z⟩
  · exact .inr ⟨p, ps, xs, ds, h1, h2, a.free n, ns, e, np, r.of a⟩
/-- an exception -/
def RepX (K : PySem.W.Frag) (Hs : Hp) (H : Hp) (e : D) (cls : Value) (dd : Option Addr) : Prop :=
  ∃ C gs, e = .exn C gs ∧ cls = .ref (He.ga K C) ∧ RepD K Hs dd gs

/-! ### ends of values -/
def endV (K : PySem.W.Frag) (Hs H : Hp) (Q : VK) : Vn → Prop
  | .v d => ∀ v Hs' H', Ext Hs H Hs' H' → Rep K Hs' v d → Q v H'
  | .n d => ∀ v Hs' H', Ext Hs H Hs' H' → RepN K H Hs' H' v d → Q v H'
def endX (K : PySem.W.Frag) (W : XK) (Hs H : Hp) (e : D) : Prop := ∀ cls dd Hs' H', Ext Hs H Hs' H' → RepX K Hs' H' e cls dd → W cls dd H'
def endE (K : PySem.W.Frag) (W : XK) (Hs H : Hp) (Q : VK) : Rs → Prop
  | .v d => endV K Hs H Q (.v d)
  | .n d => endV K Hs H Q (.n d)
  | .x e => endX K W Hs H e
theorem endV.r {W : XK} {Q : VK} {u : Vn} (h : endE K W Hs H Q u.r) : endV K Hs H Q u := by cases u <;> exact h
theorem endV.ext {Q : VK} {u : Vn} (a : Ext Hs H Hs' H') (h : endV K Hs H Q u) : endV K Hs' H' Q u := by
  cases u with
  | v d => exact fun v Hs2 H2 b r => h v Hs2 H2 (a.trans b) r
  | n d => exact fun v Hs2 H2 b r => h v Hs2 H2 (a.trans b) (r.of a.h)
theorem endE.ext {W : XK} {Q : VK} {r : Rs} (a : Ext Hs H Hs' H') (h : endE K W Hs H Q r) : endE K W Hs' H' Q r := by
  cases r with
  | v d => exact endV.ext (u := .v d) a h
  | n d => exact endV.ext (u := .n d) a h
  | x e => exact fun c dd Hs2 H2 b r => h c dd Hs2 H2 (a.trans b) r
theorem endV.here {Q : VK} {d : D} (s : Same Hs H) (h : endV K Hs H Q (.v d)) (r : Rep K Hs v d) : Q v H := h v Hs H (Ext.refl s) r
theorem endV.newN {Q : VK} {d : D} {o : HO} {p : Addr} (s : Same Hs H) (h : endV K Hs H Q (.n d)) (n : H p = none) (r : RepO K Hs o d) : Q (.ref p) (upd H p o) :=
  h _ Hs _ ((Ext.refl s).laidN n) (.inl ⟨p, o, rfl, n, s.free n, upd_same, r⟩)
/-- a new tuple -/
theorem endV.newT {Q : VK} {ds : List D} {xs : List V} {p : Addr} (s : Same Hs H) (h : endV K Hs H Q (.v (.tup ds))) (n : H p = none) (r : Reps K Hs xs ds) : Q (.ref p) (upd H p (.tup xs)) :=
  h _ _ _ ((Ext.refl s).laid n) (.tup (.inl upd_same) (r.mono (same_upd (s.free n))))
end

/-! ### readings -/
def bindR (r : Option Rs) (k : D → Option Rs) : Option Rs :=
  match r with
  | none => none
  | some (.x e) => some (.x e)
  | some (.v d) => k d
  | some (.n d) => k d
structure FrE (K : PySem.W.Frag) (env : En) (Hs : Hp) (σ : Sg) (H : Hp) : Prop where
  sub : Same Hs H
  len : env.length = σ.length
  val : ∀ i d, getv env i = some d → ∃ v, σ[i]? = some (some v) ∧ Rep K Hs v d
def rdE (K : PySem.W.Frag) (W : WX) (f : Ev) : TE := fun σ H Q => ∃ env Hs r, FrE K env Hs σ H ∧ f env = some r ∧ endE K (WE W σ) Hs H Q r
/-- the expression is read by the function f -/
abbrev PD (X : Cx) (W : WX) (e : Expr) (f : Ev) : Prop := PE X e (rdE X.K W f)
theorem PE.weak {X : Cx} {e : Expr} {t t' : TE} (h : PE X e t) (w : ∀ σ H Q, t' σ H Q → t σ H Q) : PE X e t' := ⟨fun pins s σ H Q I q => h.run pins s σ H Q I (w σ H Q q)⟩
theorem PA.weak {X : Cx} {e : List Expr} {t t' : TA} (h : PA X e t) (w : ∀ σ H Q, t' σ H Q → t σ H Q) : PA X e t' := ⟨fun pos pins s σ H Q I q => h.run pos pins s σ H Q I (w σ H Q q)⟩
theorem PT.weak {X : Cx} {e : Expr} {t t' : TT} (h : PT X e t) (w : ∀ σ H Q, t' σ H Q → t σ H Q) : PT X e t' := ⟨fun pins s σ H Q I q => h.run pins s σ H Q I (w σ H Q q)⟩
theorem PW.weak {X : Cx} {e : Expr} {t t' : TT} (h : PW X e t) (w : ∀ σ H Q, t' σ H Q → t σ H Q) : PW X e t' := ⟨fun wh pins s σ H Q I q => h.run wh pins s σ H Q I (w σ H Q q)⟩
theorem PS.weak {X : Cx} {e : Stmt} {t t' : TS} (h : PS X e t) (w : ∀ D σ H, t' D σ H → t D σ H) : PS X e t' := ⟨fun pins s σ H D I q => h.run pins s σ H D I (w D σ H q)⟩
theorem PSs.weak {X : Cx} {e : List Stmt} {t t' : TS} (h : PSs X e t) (w : ∀ D σ H, t' D σ H → t D σ H) : PSs X e t' := ⟨fun pins s σ H D I q => h.run pins s σ H D I (w D σ H q)⟩
theorem PI.weak {X : Cx} {tg e : Expr} {t t' : TI} (h : PI X tg e t) (w : ∀ σ H R, t' σ H R → t σ H R) : PI X tg e t' := ⟨fun pins s σ H R I q => h.run pins s σ H R I (w σ H R q)⟩
theorem PI.or {X : Cx} {tg e : Expr} {t t' : TI} (h : PI X tg e t) (h' : PI X tg e t') : PI X tg e (fun σ H R => t σ H R ∨ t' σ H R) :=
  ⟨fun pins s σ H R I q => q.elim (h.run pins s σ H R I) (h'.run pins s σ H R I)⟩
theorem PE.or {X : Cx} {e : Expr} {t t' : TE} (h : PE X e t) (h' : PE X e t') : PE X e (fun σ H Q => t σ H Q ∨ t' σ H Q) :=
  ⟨fun pins s σ H Q I q => q.elim (h.run pins s σ H Q I) (h'.run pins s σ H Q I)⟩
section
variable {X : Cx} {W : WX} {K : PySem.W.Frag} {env : En} {Hs H Hs' H' : Hp} {σ : Sg} {f g : Ev} {r : Rs} {Q Q1 : VK}
theorem FrE.ext (F : FrE K env Hs σ H) (a : Ext Hs H Hs' H') : FrE K env Hs' σ H' := ⟨a.sub, F.len, fun i d e => by
  obtain ⟨v, h1, h2⟩ := F.val i d e
  exact ⟨v, h1, h2.mono a.s⟩⟩
/-- one expression, and on with its value -/
theorem rd_bind {k : D → Option Rs} (F : FrE K env Hs σ H) (e : bindR (f env) k = some r) (q : endE K (WE W σ) Hs H Q r)
    (hk : ∀ v d Hs1 H1, Ext Hs H Hs1 H1 → FrE K env Hs1 σ H1 → Rep K Hs1 v d → k d = some r → endE K (WE W σ) Hs1 H1 Q r → Q1 v H1) : rdE K W f σ H Q1 := by
  cases ef : f env with
  | none => rw [ef] at e; cases e
  | some u =>
    rw [ef] at e
    cases u with
    | x e' =>
      have e2 : r = .x e' := (Option.some.inj e).symm
      subst e2
      exact ⟨env, Hs, _, F, ef, q⟩
    | v d => exact ⟨env, Hs, _, F, ef, fun v Hs1 H1 a rp => hk v d Hs1 H1 a (F.ext a) rp e (q.ext a)⟩
    | n d =>
      refine ⟨env, Hs, _, F, ef, fun v Hs1 H1 a rp => ?_⟩
      obtain ⟨Hs2, a2, rp2⟩ := rp.share a
      exact hk v d Hs2 H1 a2 (F.ext a2) rp2 e (q.ext a2)
end

/-! ### arguments -/
inductive Rl | ok (ds : List D) | x (e : D)
def evs : List Ev → En → Option Rl
  | [], _ => some (.ok [])
  | f :: fs, env => match f env with
    | none => none
    | some (.x e) => some (.x e)
    | some (.v d) => (evs fs env).map fun r => match r with | .ok ds => .ok (d :: ds) | .x e => .x e
    | some (.n d) => (evs fs env).map fun r => match r with | .ok ds => .ok (d :: ds) | .x e => .x e
def bindL (r : Option Rl) (k : List D → Option Rs) : Option Rs :=
  match r with
  | none => none
  | some (.x e) => some (.x e)
  | some (.ok ds) => k ds
def rdA (K : PySem.W.Frag) (W : WX) (fs : List Ev) : TA := fun σ H Q => ∃ env Hs r, FrE K env Hs σ H ∧ evs fs env = some r ∧
  match r with
  | .ok ds => ∀ vs Hs' H', Ext Hs H Hs' H' → Reps K Hs' vs ds → Q vs H'
  | .x e => endX K (WE W σ) Hs H e
abbrev PAD (X : Cx) (W : WX) (es : List Expr) (fs : List Ev) : Prop := PA X es (rdA X.K W fs)
section
variable {X : Cx} {W : WX} {K : PySem.W.Frag} {env : En} {Hs H Hs' H' : Hp} {σ : Sg} {f g : Ev} {fs : List Ev} {r : Rs} {Q : VK} {Q1 : List V → Hp → Prop} {a : Expr} {es : List Expr}
theorem pad_nil : PAD X W [] [] := PA.weak pa_nil fun σ H Q ⟨env, Hs, r, F, e, q⟩ => by
  have e2 := Option.some.inj e
  subst e2
  exact q [] Hs H (Ext.refl F.sub) .nil
theorem pad_cons (ha : PD X W a f) (hr : PAD X W es fs) (hs : starEach (a :: es) X.env = (false, eval a X.env) :: starEach es X.env := by rfl) : PAD X W (a :: es) (f :: fs) := PA.weak (pa_cons ha hr hs) fun σ H Q ⟨env, Hs, r, F, e, q⟩ => by
  have main : ∀ v d Hs1 H1, Ext Hs H Hs1 H1 → Rep X.K Hs1 v d → ((evs fs env).map fun r => match r with | .ok ds => Rl.ok (d :: ds) | .x e => .x e) = some r → rdA X.K W fs σ H1 (fun xs H2 => Q (v :: xs) H2) := by
    intro v d Hs1 H1 a1 rp e1
    cases er : evs fs env with
    | none => rw [er] at e1; cases e1
    | some r1 =>
      rw [er] at e1
      have e2 := Option.some.inj e1
      subst e2
      refine ⟨env, Hs1, r1, F.ext a1, er, ?_⟩
      cases r1 with
      | x e3 => exact fun c dd Hs2 H2 b z => q c dd Hs2 H2 (a1.trans b) z
      | ok ds => exact fun vs Hs2 H2 b z => q _ Hs2 H2 (a1.trans b) (.cons (rp.mono b.s) z)
  show rdE X.K W f σ H _
  unfold evs at e
  cases ef : f env with
  | none => rw [ef] at e; cases e
  | some u =>
    rw [ef] at e
    cases u with
    | x e' =>
      have e2 := Option.some.inj e
      subst e2
      exact ⟨env, Hs, _, F, ef, q⟩
    | v d => exact ⟨env, Hs, _, F, ef, fun v Hs1 H1 a1 rp => main v d Hs1 H1 a1 rp e⟩
    | n d =>
      refine ⟨env, Hs, _, F, ef, fun v Hs1 H1 a1 rp => ?_⟩
      obtain ⟨Hs2, a2, rp2⟩ := rp.share a1
      exact main v d Hs2 H1 a2 rp2 e
theorem rd_bindL {k : List D → Option Rs} (F : FrE K env Hs σ H) (e : bindL (evs fs env) k = some r) (q : endE K (WE W σ) Hs H Q r)
    (hk : ∀ vs ds Hs1 H1, Ext Hs H Hs1 H1 → FrE K env Hs1 σ H1 → Reps K Hs1 vs ds → k ds = some r → endE K (WE W σ) Hs1 H1 Q r → Q1 vs H1) : rdA K W fs σ H Q1 := by
  cases ef : evs fs env with
  | none => rw [ef] at e; cases e
  | some u =>
    rw [ef] at e
    refine ⟨env, Hs, u, F, ef, ?_⟩
    cases u with
    | x e' =>
      have e2 : r = .x e' := (Option.some.inj e).symm
      subst e2
      exact q
    | ok ds => exact fun vs Hs1 H1 a rp => hk vs ds Hs1 H1 a (F.ext a) rp e (q.ext a)
end
end HD

set_option Elab.async false
set_option linter.all false
set_option maxRecDepth 100000
set_option maxHeartbeats 4000000
/-! HDb: expressions by functions on data: names, constants, operators, comparisons, tests, subscripts, displays. -/
namespace HD
open PySem PySem.Spec PyProof.Rows L2

/-! ### names, constants -/
def vr (i : Nat) : Ev := fun env => (getv env i).map Rs.v
def cC (d : D) : Ev := fun _ => some (.v d)
section
variable {X : Cx} {W : WX} {pos : Pos}
theorem pd_of {e : Expr} {t : TE} {f : Ev} (h : PE X e t) (w : ∀ σ H Q env Hs r, FrE X.K env Hs σ H → f env = some r → endE X.K (WE W σ) Hs H Q r → t σ H Q) : PD X W e f :=
  PE.weak h fun σ H Q ⟨env, Hs, r, F, e, q⟩ => w σ H Q env Hs r F e q
theorem pd_var (i : Nat) {x : Str} (hN : X.N[i]? = some x := by rfl) (hv : Vis X.env.scope x := by first | exact Or.inl rfl | exact Or.inr (Or.inl rfl) | exact Or.inr (Or.inr rfl)) (hd : (x == ("__debug__" : Str)) = false := by decide)
    (hcd : (x == ("__classdict__" : Str)) = false := by decide) : PD X W (.Name x pos) (vr i) :=
  pd_of (pe_var hN hv hd hcd) fun σ H Q env Hs r F e q => by
    unfold vr at e
    cases eg : getv env i with
    | none => rw [eg] at e; cases e
    | some d =>
      rw [eg] at e
      have e2 := Option.some.inj e
      subst e2
      obtain ⟨v, h1, h2⟩ := F.val i d eg
      exact ⟨v, h1, endV.here F.sub q h2⟩
theorem pd_const {e : Expr} {v : V} {d : D} (h : PE X e (tC v)) (r : ∀ H, Rep X.K H v d) : PD X W e (cC d) :=
  pd_of h fun σ H Q env Hs u F e q => by
    have e2 := Option.some.inj e
    subst e2
    exact endV.here F.sub q (r Hs)
theorem pd_int {i j} : PD X W (.Constant (.int i) j pos) (cC (.int i)) := pd_const pe_int fun _ => .int i
theorem pd_bl {b j} : PD X W (.Constant (.bool b) j pos) (cC (.bl b)) := pd_const pe_bl fun _ => .bl b
theorem pd_non {j} : PD X W (.Constant .none j pos) (cC .non) := pd_const pe_non fun _ => .non
theorem pd_str {x j} : PD X W (.Constant (.str x) j pos) (cC (.str x)) := pd_const pe_str fun _ => .str x
/-- a constant of the module's top -/
theorem pd_glob {x : Str} {v : V} {u : Value} {d : D} (hg : Gl X x) (hm : X.mg x = some u) (r : RelV v u) (rp : ∀ H, Rep X.K H v d) (hd : (x == ("__debug__" : Str)) = false := by decide) : PD X W (.Name x pos) (cC d) :=
  pd_const (pe_glob hg hm r hd) rp
end

/-! ### operators -/
def rdO (K : PySem.W.Frag) (g : D → D → Option Vn) : R2 := fun x y H Q => ∃ Hs d e u, Same Hs H ∧ Rep K Hs x d ∧ Rep K Hs y e ∧ g d e = some u ∧ endV K Hs H Q u
def rdU (K : PySem.W.Frag) (g : D → Option Vn) : V → Hp → VK → Prop := fun x H Q => ∃ Hs d u, Same Hs H ∧ Rep K Hs x d ∧ g d = some u ∧ endV K Hs H Q u
abbrev OpD (X : Cx) (f : Value → Value → Sem Value) (g : D → D → Option Vn) : Prop := OpR X f (rdO X.K g)
def cOp (g : D → D → Option Vn) (a b : Ev) : Ev := fun env => bindR (a env) fun x => bindR (b env) fun y => (g x y).map Vn.r
def cUn (g : D → Option Vn) (a : Ev) : Ev := fun env => bindR (a env) fun x => (g x).map Vn.r
theorem OpR.weak {X : Cx} {f : Value → Value → Sem Value} {r r' : R2} (h : OpR X f r) (w : ∀ x y H Q, r' x y H Q → r x y H Q) : OpR X f r' :=
  fun pins s σ H x y v u Q I rx ry q => h pins s σ H x y v u Q I rx ry (w x y H Q q)
theorem map_r {o : Option Vn} {r : Rs} (h : o.map Vn.r = some r) : ∃ u, o = some u ∧ r = u.r := by
  cases o with
  | none => cases h
  | some u => exact ⟨u, rfl, (Option.some.inj h).symm⟩
section
variable {X : Cx} {W : WX} {a b : Expr} {f f' : Ev} {pos : Pos} {g : D → D → Option Vn}
theorem rd_two {K : PySem.W.Frag} {σ : Sg} {H : Hp} {Q : VK} {env : En} {Hs : Hp} {r : Rs} (F : FrE K env Hs σ H) (e : cOp g f f' env = some r) (q : endE K (WE W σ) Hs H Q r) :
    tOp (rdO K g) (rdE K W f) (rdE K W f') σ H Q :=
  rd_bind F e q fun v d Hs1 H1 a1 F1 r1 e1 q1 => rd_bind F1 e1 q1 fun v2 d2 Hs2 H2 a2 F2 r2 e2 q2 => by
    obtain ⟨u, h1, rfl⟩ := map_r e2
    exact ⟨Hs2, d, d2, u, F2.sub, r1.mono a2.s, r2, h1, endV.r q2⟩
theorem pd_op {op : Operator} (ho : OpD X (binaryOp op) g) (ha : PD X W a f) (hb : PD X W b f') : PD X W (.BinOp a op b pos) (cOp g f f') :=
  pd_of (pe_op ho ha hb) fun σ H Q env Hs r F e q => rd_two F e q
theorem pd_un {op : UnaryOp} {g : D → Option Vn} (ho : UnR X (unaryOp op) (rdU X.K g)) (ha : PD X W a f) : PD X W (.UnaryOp op a pos) (cUn g f) :=
  pd_of (pe_un ho ha) fun σ H Q env Hs r F e q => rd_bind F e q fun v d Hs1 H1 a1 F1 r1 e1 q1 => by
    obtain ⟨u, h1, rfl⟩ := map_r e1
    exact ⟨Hs1, d, u, F1.sub, r1, h1, endV.r q1⟩
theorem pd_cmp {op : CmpOp} (ho : OpD X (compareOp op) g) (ha : PD X W a f) (hb : PD X W b f') (hm : behindInMarks op b = false) : PD X W (.Compare a [op] [b] pos) (cOp g f f') :=
  pd_of (pe_cmpR ho ha hb hm) fun σ H Q env Hs r F e q => rd_two F e q
end

/-! ### the operators' functions -/
def mulOk (i j : Int) : Bool := decide (i.natAbs.log2 + j.natAbs.log2 < 100000000)
theorem bits_low (x : Int) : Builtin.Int.intBits x ≤ x.natAbs.log2 + 1 := by
  simp only [Builtin.Int.intBits]
  split <;> omega
theorem mulOk_ok {i j : Int} (h : mulOk i j = true) : IntMulOk i j := fun z => by
  have over : bitsLine < (Builtin.Int.intBits i : Int) + Builtin.Int.intBits j := of_decide_eq_true (Bool.and_eq_true_iff.1 z).2
  have few := of_decide_eq_true h
  have hi := bits_low i
  have hj := bits_low j
  have line : bitsLine = 134217728 := rfl
  omega
def addD : D → D → Option Vn
  | .int i, .int j => some (.v (.int (i + j)))
  | .str x, .str y => if x.length + y.length ≤ sizeLine then some (.v (.str (x ++ y))) else none
  | .tup x, .tup y => if x.length + y.length ≤ sizeLine then some (.v (.tup (x ++ y))) else none
  | .lst x, .lst y => if x.length + y.length ≤ sizeLine then some (.n (.lst (x ++ y))) else none
  | _, _ => none
def subD : D → D → Option Vn
  | .int i, .int j => some (.v (.int (i - j)))
  | _, _ => none
def mulD : D → D → Option Vn
  | .int i, .int j => if mulOk i j then some (.v (.int (i * j))) else none
  | .tup l, .int k => if l ≠ [] ∧ 2 ≤ k ∧ k ≤ 1000 ∧ l.length ≤ 1000 then some (.v (.tup (List.replicate k.toNat l).flatten)) else none
  | _, _ => none
def dvOk (j : Int) : Bool := decide (j ≠ 0 ∧ j.natAbs.log2 < 9000)
def fdivD : D → D → Option Vn
  | .int i, .int j => if dvOk j then some (.v (.int (i.fdiv j))) else none
  | _, _ => none
def modD : D → D → Option Vn
  | .int i, .int j => if j = 0 then none else some (.v (.int (i.fmod j)))
  | _, _ => none
def powD : D → D → Option Vn
  | .int i, .int j => if 0 ≤ j ∧ j ≤ 1000000 ∧ i.natAbs < 2 ^ 64 then some (.v (.int (i ^ j.toNat))) else none
  | _, _ => none
def shrD : D → D → Option Vn
  | .int i, .int j => if 0 ≤ j then some (.v (.int (i / 2 ^ j.toNat))) else none
  | _, _ => none
def andD : D → D → Option Vn
  | .int i, .int j => some (.v (.int (Builtin.bitAnd i j)))
  | _, _ => none
def xorD : D → D → Option Vn
  | .int i, .int j => some (.v (.int (Builtin.bitXor i j)))
  | _, _ => none
def negD : D → Option Vn
  | .int i => some (.v (.int (-i)))
  | _ => none
def ltD : D → D → Option Vn
  | .int i, .int j => some (.v (.bl (decide (i < j))))
  | _, _ => none
def leD : D → D → Option Vn
  | .int i, .int j => some (.v (.bl (decide (i ≤ j))))
  | _, _ => none
def gtD : D → D → Option Vn
  | .int i, .int j => some (.v (.bl (decide (j < i))))
  | _, _ => none
def geD : D → D → Option Vn
  | .int i, .int j => some (.v (.bl (decide (j ≤ i))))
  | _, _ => none
section
variable {X : Cx}
/-- an operator on ints alone -/
theorem op_ints {f : Value → Value → Sem Value} {C : Int → Int → Prop} {k : Int → Int → V} {g : D → D → Option Vn} (h : OpR X f (rI C k))
    (hg : ∀ d e u, g d e = some u → ∃ i j z, d = .int i ∧ e = .int j ∧ C i j ∧ u = .v z ∧ ∀ K H, Rep K H (k i j) z) : OpD X f g := OpR.weak h fun x y H Q ⟨Hs, d, e, u, sb, rx, ry, eg, q⟩ => by
  obtain ⟨i, j, z, rfl, rfl, hc, rfl, hz⟩ := hg d e u eg
  cases rx
  cases ry
  exact ⟨i, j, rfl, rfl, hc, endV.here sb q (hz _ _)⟩
theorem ri0 {f : Value → Value → Sem Value} {k : Int → Int → V} (h : OpR X f (rI0 k)) : OpR X f (rI (fun _ _ => True) k) := OpR.weak h fun x y H Q ⟨i, j, e1, e2, _, q⟩ => ⟨i, j, e1, e2, q⟩
theorem opd_sub : OpD X (binaryOp .Sub) subD := op_ints (ri0 op_sub) fun d e u h => by
  unfold subD at h
  split at h
  · exact ⟨_, _, _, rfl, rfl, trivial, (Option.some.inj h).symm, fun _ _ => .int _⟩
  · cases h
theorem opd_fdiv : OpD X (binaryOp .FloorDiv) fdivD := op_ints (C := fun _ j => dvOk j = true) (k := fun i j => .int (i.fdiv j)) (opI fun i j _ _ _ _ _ hc q => floordiv_int (of_decide_eq_true hc).1 q (.inl (PyProof.noPylong_of_log2 (of_decide_eq_true hc).2))) fun d e u h => by
  unfold fdivD at h
  split at h
  · split at h
    · exact ⟨_, _, _, rfl, rfl, by assumption, (Option.some.inj h).symm, fun _ _ => .int _⟩
    · cases h
  · cases h
theorem opd_mod : OpD X (binaryOp .Mod) modD := op_ints op_modN fun d e u h => by
  unfold modD at h
  split at h
  · split at h
    · cases h
    · exact ⟨_, _, _, rfl, rfl, by assumption, (Option.some.inj h).symm, fun _ _ => .int _⟩
  · cases h
theorem opd_pow : OpD X (binaryOp .Pow) powD := op_ints op_pow fun d e u h => by
  unfold powD at h
  split at h
  · split at h
    · exact ⟨_, _, _, rfl, rfl, by assumption, (Option.some.inj h).symm, fun _ _ => .int _⟩
    · cases h
  · cases h
theorem opd_shr : OpD X (binaryOp .RShift) shrD := op_ints op_shr fun d e u h => by
  unfold shrD at h
  split at h
  · split at h
    · exact ⟨_, _, _, rfl, rfl, by assumption, (Option.some.inj h).symm, fun _ _ => .int _⟩
    · cases h
  · cases h
theorem opd_and : OpD X (binaryOp .BitAnd) andD := op_ints (ri0 op_and) fun d e u h => by
  unfold andD at h
  split at h
  · exact ⟨_, _, _, rfl, rfl, trivial, (Option.some.inj h).symm, fun _ _ => .int _⟩
  · cases h
theorem opd_xor : OpD X (binaryOp .BitXor) xorD := op_ints (ri0 op_xor) fun d e u h => by
  unfold xorD at h
  split at h
  · exact ⟨_, _, _, rfl, rfl, trivial, (Option.some.inj h).symm, fun _ _ => .int _⟩
  · cases h
theorem opd_lt : OpD X (compareOp .Lt) ltD := op_ints (ri0 op_lt) fun d e u h => by
  unfold ltD at h
  split at h
  · exact ⟨_, _, _, rfl, rfl, trivial, (Option.some.inj h).symm, fun _ _ => .bl _⟩
  · cases h
theorem opd_le : OpD X (compareOp .LtE) leD := op_ints (ri0 op_le) fun d e u h => by
  unfold leD at h
  split at h
  · exact ⟨_, _, _, rfl, rfl, trivial, (Option.some.inj h).symm, fun _ _ => .bl _⟩
  · cases h
theorem opd_gt : OpD X (compareOp .Gt) gtD := op_ints (ri0 op_gt) fun d e u h => by
  unfold gtD at h
  split at h
  · exact ⟨_, _, _, rfl, rfl, trivial, (Option.some.inj h).symm, fun _ _ => .bl _⟩
  · cases h
theorem opd_ge : OpD X (compareOp .GtE) geD := op_ints (ri0 op_ge) fun d e u h => by
  unfold geD at h
  split at h
  · exact ⟨_, _, _, rfl, rfl, trivial, (Option.some.inj h).symm, fun _ _ => .bl _⟩
  · cases h
theorem opd_neg : UnR X (unaryOp .USub) (rdU X.K negD) := fun pins s σ H x v Q I rx ⟨Hs, d, u, sb, r, eg, q⟩ => by
  unfold negD at eg
  split at eg
  · have e := Option.some.inj eg
    subst e
    cases r
    exact un_neg pins s σ H _ v Q I rx ⟨_, rfl, endV.here sb q (.int _)⟩
  · cases eg
theorem opd_add : OpD X (binaryOp .Add) addD := by
  refine OpR.weak ((ri0 op_add).or (op_add_str.or (op_catA.or op_cat))) fun x y H Q ⟨Hs, d, e, u, sb, rx, ry, eg, q⟩ => ?_
  unfold addD at eg
  split at eg
  · have e := Option.some.inj eg
    subst e
    cases rx
    cases ry
    exact .inl ⟨_, _, rfl, rfl, trivial, endV.here sb q (.int _)⟩
  · split at eg
    · have e := Option.some.inj eg
      subst e
      cases rx
      cases ry
      exact .inr (.inl ⟨_, _, rfl, rfl, by assumption, endV.here sb q (.str _)⟩)
    · cases eg
  · split at eg
    · rename_i x1 y1 hl
      have e := Option.some.inj eg
      subst e
      cases rx with
      | tup h1 r1 =>
        cases ry with
        | tup h2 r2 =>
          refine .inr (.inr (.inl ⟨_, _, _, _, rfl, rfl, same_sqt sb h1.t, same_sqt sb h2.t, by rw [r1.length, r2.length]; exact hl, ?_⟩))
          have q3 := r1.append r2
          refine ⟨fun e => ?_, fun _ e => ?_, fun _ _ p hp => endV.newT sb q hp q3⟩
          · subst e
            cases r1
            exact endV.here sb q (.tup h2 r2)
          · subst e
            cases r2
            rw [List.append_nil] at q
            exact endV.here sb q (.tup h1 r1)
    · cases eg
  · split at eg
    · rename_i x1 y1 hl
      have e := Option.some.inj eg
      subst e
      cases rx with
      | lst h1 r1 =>
        cases ry with
        | lst h2 r2 =>
          exact .inr (.inr (.inr ⟨_, _, _, _, rfl, rfl, sb _ _ h1, sb _ _ h2, by rw [r1.length, r2.length]; exact hl, fun p hp => endV.newN sb q hp (.lst (r1.append r2))⟩))
    · cases eg
  · cases eg
theorem opd_mul : OpD X (binaryOp .Mult) mulD := by
  refine OpR.weak ((show OpR X (binaryOp .Mult) (rI (fun i j => mulOk i j = true) fun i j => .int (i * j)) from opI fun _ _ _ _ _ _ _ hc q => mul_int q (mulOk_ok hc)).or op_repT) fun x y H Q ⟨Hs, d, e, u, sb, rx, ry, eg, q⟩ => ?_
  unfold mulD at eg
  split at eg
  · split at eg
    · have e := Option.some.inj eg
      subst e
      cases rx
      cases ry
      exact .inl ⟨_, _, rfl, rfl, by assumption, endV.here sb q (.int _)⟩
    · cases eg
  · split at eg
    · rename_i l k hl
      have e := Option.some.inj eg
      subst e
      cases ry
      cases rx with
      | tup h1 r1 =>
        refine .inr ⟨_, _, _, rfl, rfl, same_sqt sb h1, fun z => hl.1 ?_, hl.2.1, hl.2.2.1, by rw [r1.length]; exact hl.2.2.2, fun p hp => endV.newT sb q hp (Reps.flatten _ r1)⟩
        subst z
        cases r1
        rfl
    · cases eg
  · cases eg
end

/-! ### == of data -/
mutual
/-- data of depth at most n that may be compared -/
def D.sh : Nat → D → Bool
  | _, .non | _, .bl _ | _, .int _ => true
  | _, .str x => PyData.strOk x
  | 0, _ => false
  | n + 1, .tup l => D.shs n l
  | n + 1, .lst l => D.shs n l
  | _, _ => false
def D.shs : Nat → List D → Bool
  | _, [] => true
  | n, d :: r => D.sh n d && D.shs n r
end
mutual
def D.py : D → PyData
  | .non => .none
  | .bl b => .bool b
  | .int i => .int i
  | .str x => .str x
  | .tup l => .tuple (D.pys l)
  | .lst l => .list (D.pys l)
  | _ => .none
def D.pys : List D → List PyData
  | [] => []
  | d :: r => D.py d :: D.pys r
end
mutual
def D.eqv : D → D → Bool
  | .non, .non => true
  | .bl a, .bl b => a == b
  | .bl a, .int j => (if a then 1 else 0) == j
  | .int i, .bl b => i == (if b then 1 else 0)
  | .int i, .int j => i == j
  | .str x, .str y => x == y
  | .lst xs, .lst ys => D.eqvs xs ys
  | .tup xs, .tup ys => D.eqvs xs ys
  | _, _ => false
def D.eqvs : List D → List D → Bool
  | [], [] => true
  | x :: xs, y :: ys => D.eqv x y && D.eqvs xs ys
  | _, _ => false
end
def eqD (d e : D) : Option Vn := if d.sh 60 && e.sh 60 then some (.v (.bl (D.eqv d e))) else none
def neD (d e : D) : Option Vn := if d.sh 60 && e.sh 60 then some (.v (.bl (!D.eqv d e))) else none
section
variable {K : PySem.W.Frag} {H : Hp}
mutual
theorem Rep.dp : ∀ (n : Nat) (d : D) (v : V), D.sh n d = true → Rep K H v d → Dp K H v d.py
  | _, .non, _, _, h => by cases h; exact .non
  | _, .bl b, _, _, h => by cases h; exact .bl b
  | _, .int i, _, _, h => by cases h; exact .int i
  | _, .str x, _, _, h => by cases h; exact .str x
  | 0, .tup l, _, e, _ => by simp [D.sh] at e
  | 0, .lst l, _, e, _ => by simp [D.sh] at e
  | n + 1, .tup l, _, e, h => by
    unfold D.sh at e
    cases h with
    | tup h1 r1 => exact .tup h1 (Reps.dp n l _ e r1)
  | n + 1, .lst l, _, e, h => by
    unfold D.sh at e
    cases h with
    | lst h1 r1 => exact .lst (SqL.of h1) (Reps.dp n l _ e r1)
  | 0, .scr _, _, e, _ => by simp [D.sh] at e
  | n + 1, .scr _, _, e, _ => by simp [D.sh] at e
  | 0, .dic _, _, e, _ => by simp [D.sh] at e
  | n + 1, .dic _, _, e, _ => by simp [D.sh] at e
  | 0, .dit _, _, e, _ => by simp [D.sh] at e
  | n + 1, .dit _, _, e, _ => by simp [D.sh] at e
  | 0, .ins _ _, _, e, _ => by simp [D.sh] at e
  | n + 1, .ins _ _, _, e, _ => by simp [D.sh] at e
  | 0, .exn _ _, _, e, _ => by simp [D.sh] at e
  | n + 1, .exn _ _, _, e, _ => by simp [D.sh] at e
theorem Reps.dp : ∀ (n : Nat) (d : List D) (v : List V), D.shs n d = true → Reps K H v d → DpAll K H v (D.pys d)
  | _, [], _, _, h => by cases h; exact .nil
  | n, d :: r, _, e, h => by
    unfold D.shs at e
    rw [Bool.and_eq_true] at e
    cases h with
    | cons h1 r1 => exact .cons (Rep.dp n d _ e.1 h1) (Reps.dp n r _ e.2 r1)
end
mutual
theorem eqv_py : ∀ (n : Nat) (d e : D), D.sh n d = true → D.sh n e = true → PyData.eqv d.py e.py = D.eqv d e
  | n, d, e, h1, h2 => by
    cases d <;> cases e <;> first
      | (simp [D.py, D.eqv, PyData.eqv]; done)
      | (cases n <;> simp [D.sh] at h1; done)
      | (cases n <;> simp [D.sh] at h2; done)
      | (cases n with
         | zero => simp [D.sh] at h1
         | succ n =>
           unfold D.sh at h1 h2
           simp only [D.py, D.eqv, PyData.eqv]
           exact eqvs_py n _ _ h1 h2)
theorem eqvs_py : ∀ (n : Nat) (d e : List D), D.shs n d = true → D.shs n e = true → PyData.eqvAll (D.pys d) (D.pys e) = D.eqvs d e
  | _, [], [], _, _ => by simp [D.pys, D.eqvs, PyData.eqvAll]
  | _, [], _ :: _, _, _ => by simp [D.pys, D.eqvs, PyData.eqvAll]
  | _, _ :: _, [], _, _ => by simp [D.pys, D.eqvs, PyData.eqvAll]
  | n, x :: xs, y :: ys, h1, h2 => by
    unfold D.shs at h1 h2
    rw [Bool.and_eq_true] at h1 h2
    simp only [D.pys, D.eqvs, PyData.eqvAll]
    rw [eqv_py n x y h1.1 h2.1, eqvs_py n xs ys h1.2 h2.2]
end
mutual
theorem sh_lay : ∀ (n : Nat) (d : D), D.sh n d = true → d.py.canLay0 = true ∧ d.py.depth ≤ n
  | n, d, h => by
    cases d <;> first
      | (simp [D.py, PyData.canLay0, PyData.depth]; done)
      | (cases n <;> simp [D.sh] at h; done)
      | (cases n <;> (simp only [D.sh] at h; simp [D.py, PyData.canLay0, PyData.depth, h]); done)
      | (cases n with
         | zero => simp [D.sh] at h
         | succ n =>
           unfold D.sh at h
           have q := shs_lay n _ h
           refine ⟨by simpa [D.py, PyData.canLay0] using q.1, ?_⟩
           simp only [D.py, PyData.depth]
           omega)
theorem shs_lay : ∀ (n : Nat) (d : List D), D.shs n d = true → PyData.canLayAll0 (D.pys d) = true ∧ PyData.depthAll (D.pys d) ≤ n
  | _, [], _ => by simp [D.pys, PyData.canLayAll0, PyData.depthAll]
  | n, x :: xs, h => by
    unfold D.shs at h
    rw [Bool.and_eq_true] at h
    have q1 := sh_lay n x h.1
    have q2 := shs_lay n xs h.2
    simp only [D.pys, PyData.canLayAll0, PyData.depthAll]
    refine ⟨by rw [q1.1, q2.1]; rfl, by omega⟩
end
theorem sh_shaped {d : D} (h : D.sh 60 d = true) : SeqAt.shaped d.py = true := by
  have q := sh_lay 60 d h
  unfold SeqAt.shaped
  rw [q.1, Bool.true_and]
  exact decide_eq_true (Nat.le_trans q.2 (by decide))
end
section
variable {X : Cx}
theorem opd_eq (hu : X.A.units + 64 < cLine) : OpD X (compareOp .Eq) eqD := OpR.weak (op_eqD hu) fun x y H Q ⟨Hs, d, e, u, sb, rx, ry, eg, q⟩ => by
  unfold eqD at eg
  split at eg
  · rename_i h
    rw [Bool.and_eq_true] at h
    have e := Option.some.inj eg
    subst e
    refine ⟨_, _, Rep.dp 60 d x h.1 (rx.mono sb), Rep.dp 60 _ y h.2 (ry.mono sb), sh_shaped h.1, sh_shaped h.2, ?_⟩
    rw [eqv_py 60 _ _ h.1 h.2]
    exact endV.here sb q (.bl _)
  · cases eg
theorem opd_ne (hu : X.A.units + 64 < cLine) : OpD X (compareOp .NotEq) neD := OpR.weak (op_neD hu) fun x y H Q ⟨Hs, d, e, u, sb, rx, ry, eg, q⟩ => by
  unfold neD at eg
  split at eg
  · rename_i h
    rw [Bool.and_eq_true] at h
    have e := Option.some.inj eg
    subst e
    refine ⟨_, _, Rep.dp 60 d x h.1 (rx.mono sb), Rep.dp 60 _ y h.2 (ry.mono sb), sh_shaped h.1, sh_shaped h.2, ?_⟩
    rw [eqv_py 60 _ _ h.1 h.2]
    exact endV.here sb q (.bl _)
  · cases eg
end
end HD

set_option Elab.async false
set_option linter.all false
set_option maxRecDepth 100000
set_option maxHeartbeats 4000000
/-! HDc: in, is, truth, tests, chains, subscripts, slices, displays, fields; calls of defs and of built-ins. -/
namespace HD
open PySem PySem.Spec PyProof.Rows L2

/-! ### tables -/
def keyOf : D → Option Key
  | .int i => some (.inl i)
  | .str z => some (.inr z)
  | _ => none
def keysOf : List D → Option (List Key)
  | [] => some []
  | d :: r => (keyOf d).bind fun k => (keysOf r).map (k :: ·)
def tkeyOf : D → Option (List Key)
  | .tup l => keysOf l
  | _ => none
def isKey : D → Key → Bool
  | .int i, .inl j => decide (i = j)
  | .str x, .inr y => decide (x = y)
  | _, _ => false
def isKeys : List D → List Key → Bool
  | [], [] => true
  | d :: l, k :: m => isKey d k && isKeys l m
  | _, _ => false
def isTKey : D → List Key → Bool
  | .tup l, m => isKeys l m
  | _, _ => false
def lookK (l : List (D × D)) (k : Key) : Option D := (l.find? fun p => isKey p.1 k).map (·.2)
def lookT (l : List (D × D)) (k : List Key) : Option D := (l.find? fun p => isTKey p.1 k).map (·.2)
def putD (l : List (D × D)) (k : Key) (d : D) : List (D × D) := if (l.any fun p => isKey p.1 k) = true then l.map (fun p => if isKey p.1 k = true then (p.1, d) else p) else l ++ [(kD k, d)]
def putT (l : List (D × D)) (k : List Key) (d : D) : List (D × D) := if (l.any fun p => isTKey p.1 k) = true then l.map (fun p => if isTKey p.1 k = true then (p.1, d) else p) else l ++ [(.tup (k.map kD), d)]
theorem isKey_kD (k j : Key) : isKey (kD k) j = decide (k = j) := by
  cases k <;> cases j <;> simp [isKey, kD]
theorem isKeys_kD : ∀ k j : List Key, isKeys (k.map kD) j = decide (k = j)
  | [], [] => by simp [isKeys]
  | [], _ :: _ => by simp [isKeys]
  | _ :: _, [] => by simp [isKeys]
  | a :: k, b :: j => by
    rw [List.map_cons]
    show (isKey (kD a) b && isKeys (k.map kD) j) = _
    rw [isKey_kD, isKeys_kD k j]
    by_cases h1 : a = b <;> by_cases h2 : k = j <;> simp [h1, h2]
theorem isTKey_kD (k j : List Key) : isTKey (.tup (k.map kD)) j = decide (k = j) := isKeys_kD k j
section
variable {K : PySem.W.Frag} {H : Hp}
theorem keyOf_rep {d : D} {k : Key} {v : V} (e : keyOf d = some k) (r : Rep K H v d) : v = kV k := by
  unfold keyOf at e
  split at e
  · cases e; cases r; rfl
  · cases e; cases r; rfl
  · cases e
theorem keysOf_rep : ∀ {l : List D} {k : List Key} {vs : List V}, keysOf l = some k → Reps K H vs l → vs = k.map kV
  | [], k, vs, e, r => by
    cases r
    cases e
    rfl
  | d :: l, k, vs, e, r => by
    cases r with
    | cons h r =>
      unfold keysOf at e
      cases e1 : keyOf d with
      | none => rw [e1] at e; cases e
      | some a =>
        rw [e1, Option.bind_some] at e
        cases e2 : keysOf l with
        | none => rw [e2] at e; cases e
        | some m =>
          rw [e2] at e
          have e3 : a :: m = k := Option.some.inj e
          subst e3
          rw [List.map_cons, keyOf_rep e1 h, keysOf_rep e2 r]
def RelR (K : PySem.W.Frag) (H : Hp) : Option V → Option D → Prop
  | some v, some d => Rep K H v d
  | none, none => True
  | _, _ => False
theorem RepK.look {k : Key} : ∀ {kvs : List (Key × V)} {l : List (D × D)}, RepK K H kvs l → RelR K H (valV kvs k) (lookK l k)
  | _, _, .nil => trivial
  | _, _, .cons (k := a) (l := l) (d := d) h r => by
    by_cases e : a = k
    · rw [valV_pos e]
      have : lookK ((kD a, d) :: l) k = some d := by
        unfold lookK
        rw [List.find?_cons_of_pos (by rw [isKey_kD]; exact decide_eq_true e)]
        rfl
      rw [this]
      exact h
    · rw [valV_neg e]
      have : lookK ((kD a, d) :: l) k = lookK l k := by
        unfold lookK
        rw [List.find?_cons_of_neg (by rw [isKey_kD, decide_eq_false e]; exact Bool.false_ne_true)]
      rw [this]
      exact RepK.look r
theorem RepT.look {k : List Key} : ∀ {kvs : List (List Key × V)} {l : List (D × D)}, RepT K H kvs l → RelR K H (valV kvs k) (lookT l k)
  | _, _, .nil => trivial
  | _, _, .cons (k := a) (l := l) (d := d) h r => by
    by_cases e : a = k
    · rw [valV_pos e]
      have : lookT ((.tup (a.map kD), d) :: l) k = some d := by
        unfold lookT
        rw [List.find?_cons_of_pos (by rw [isTKey_kD]; exact decide_eq_true e)]
        rfl
      rw [this]
      exact h
    · rw [valV_neg e]
      have : lookT ((.tup (a.map kD), d) :: l) k = lookT l k := by
        unfold lookT
        rw [List.find?_cons_of_neg (by rw [isTKey_kD, decide_eq_false e]; exact Bool.false_ne_true)]
      rw [this]
      exact RepT.look r
theorem RelR.isSome {o : Option V} {p : Option D} (r : RelR K H o p) : o.isSome = p.isSome := by
  cases o <;> cases p <;> first | rfl | exact r.elim
theorem RelR.get {o : Option V} {d : D} (r : RelR K H o (some d)) : ∃ v, o = some v ∧ Rep K H v d := by
  cases o with
  | none => exact r.elim
  | some v => exact ⟨v, rfl, r⟩
theorem RepK.any {k : Key} : ∀ {kvs : List (Key × V)} {l : List (D × D)}, RepK K H kvs l → (kvs.any fun kv => decide (kv.1 = k)) = l.any fun p => isKey p.1 k
  | _, _, .nil => rfl
  | _, _, .cons h r => by rw [List.any_cons, List.any_cons, RepK.any r, isKey_kD]
theorem RepT.any {k : List Key} : ∀ {kvs : List (List Key × V)} {l : List (D × D)}, RepT K H kvs l → (kvs.any fun kv => decide (kv.1 = k)) = l.any fun p => isTKey p.1 k
  | _, _, .nil => rfl
  | _, _, .cons h r => by rw [List.any_cons, List.any_cons, RepT.any r, isTKey_kD]
theorem RepK.snoc {k : Key} {v : V} {d : D} (h : Rep K H v d) : ∀ {kvs : List (Key × V)} {l : List (D × D)}, RepK K H kvs l → RepK K H (kvs ++ [(k, v)]) (l ++ [(kD k, d)])
  | _, _, .nil => .cons h .nil
  | _, _, .cons h1 r => .cons h1 (RepK.snoc h r)
theorem RepT.snoc {k : List Key} {v : V} {d : D} (h : Rep K H v d) : ∀ {kvs : List (List Key × V)} {l : List (D × D)}, RepT K H kvs l → RepT K H (kvs ++ [(k, v)]) (l ++ [(.tup (k.map kD), d)])
  | _, _, .nil => .cons h .nil
  | _, _, .cons h1 r => .cons h1 (RepT.snoc h r)
theorem RepK.repl {k : Key} {v : V} {d : D} (h : Rep K H v d) : ∀ {kvs : List (Key × V)} {l : List (D × D)}, RepK K H kvs l → RepK K H (kvs.map fun kv => if kv.1 = k then (kv.1, v) else kv) (l.map fun p => if isKey p.1 k = true then (p.1, d) else p)
  | _, _, .nil => .nil
  | _, _, .cons (k := a) h1 r => by
    rw [List.map_cons, List.map_cons, isKey_kD]
    by_cases e : a = k
    · rw [if_pos e, if_pos (decide_eq_true e)]
      exact .cons h (RepK.repl h r)
    · rw [if_neg e, if_neg (by rw [decide_eq_false e]; exact Bool.false_ne_true)]
      exact .cons h1 (RepK.repl h r)
theorem RepT.repl {k : List Key} {v : V} {d : D} (h : Rep K H v d) : ∀ {kvs : List (List Key × V)} {l : List (D × D)}, RepT K H kvs l → RepT K H (kvs.map fun kv => if kv.1 = k then (kv.1, v) else kv) (l.map fun p => if isTKey p.1 k = true then (p.1, d) else p)
  | _, _, .nil => .nil
  | _, _, .cons (k := a) h1 r => by
    rw [List.map_cons, List.map_cons, isTKey_kD]
    by_cases e : a = k
    · rw [if_pos e, if_pos (decide_eq_true e)]
      exact .cons h (RepT.repl h r)
    · rw [if_neg e, if_neg (by rw [decide_eq_false e]; exact Bool.false_ne_true)]
      exact .cons h1 (RepT.repl h r)
theorem RepK.put {kvs : List (Key × V)} {l : List (D × D)} {k : Key} {v : V} {d : D} (r : RepK K H kvs l) (h : Rep K H v d) : RepK K H (putK kvs k v) (putD l k d) := by
  unfold putK putD
  rw [r.any]
  split
  · exact r.repl h
  · exact r.snoc h
theorem RepT.put {kvs : List (List Key × V)} {l : List (D × D)} {k : List Key} {v : V} {d : D} (r : RepT K H kvs l) (h : Rep K H v d) : RepT K H (putK kvs k v) (putT l k d) := by
  unfold putK putT
  rw [r.any]
  split
  · exact r.repl h
  · exact r.snoc h
theorem RepK.length : ∀ {kvs : List (Key × V)} {l : List (D × D)}, RepK K H kvs l → kvs.length = l.length
  | _, _, .nil => rfl
  | _, _, .cons _ r => congrArg (· + 1) r.length
theorem RepT.length : ∀ {kvs : List (List Key × V)} {l : List (D × D)}, RepT K H kvs l → kvs.length = l.length
  | _, _, .nil => rfl
  | _, _, .cons _ r => congrArg (· + 1) r.length
end
/-- what a dict tells at a key that is any tuple -/
def DGetA (K : PySem.W.Frag) (H : Hp) (a : Addr) (y : V) (r : Option V) : Prop :=
  (∃ kvs k, Rd H a (.dK kvs) ∧ y = kV k ∧ r = valV kvs k) ∨ ∃ kvs k b, Rd H a (.dT kvs) ∧ y = .ref b ∧ SqT K H b (k.map kV) ∧ r = valV kvs k
section
variable {X : Cx} {pins : List (Addr × Obj)} {σ : Sg} {H : Hp} {s : Shared} {a : Addr} {y v : V} {u : Value} {o : Option V} {A : Around} {E : Value → Shared → Prop}
theorem key_sqt (I : Inv X pins σ H s) {ks : List Key} (e : SqT X.K H a (ks.map kV)) : (tupleKind (mixKind X.prog X.w)).is s.heap ks a := by
  obtain ⟨its, rv, ⟨o, h1, h2, n, h3⟩, _⟩ := I.tuple e
  exact ⟨o, its.toArray, n, h1, h2, h3, by simpa using items_are rv⟩
/-- a table with tuples as keys, asked for the tuple at b: where it lies, that b is a key's like, and what it answers -/
theorem tab_at (I : Inv X pins σ H s) {kvs : List (List Key × V)} {k : List Key} {b : Addr} (e : Rd H a (.dT kvs)) (eb : SqT X.K H b (k.map kV)) :
    ∃ tab, (a == sysModules) = false ∧ s.heap.DictOfH (tupleKind (mixKind X.prog X.w)) a tab ∧ (tupleKind (mixKind X.prog X.w)).is s.heap k b ∧ RelO (valV kvs k) ((atKey tab k).map (·.2)) :=
  match dt_rd I.hok e with
  | ⟨_, m, tab, kt, lies⟩ => ⟨tab, m, lies, key_sqt I eb, kt.val k⟩
theorem opt_some (tab : Option (Addr × Value)) {w : Option V} (r : RelO w (tab.map (·.2))) : tab.isSome = w.isSome := by
  cases tab <;> cases w <;> first | rfl | exact r.isSome_eq.symm
/-- `in` and, under neg, `not in` -/
theorem dA_isin {Q : Value → Shared → Prop} (hu : A.units + 1 < cLine) (I : Inv X pins σ H s) (g : DGetA X.K H a y o) (ry : RelV y u) :
    ((∀ s', Inv X pins σ H s' → Q (.bool o.isSome) s') → wpAny (model X.prog X.w) A (compareOp .In u (.ref a)) Q E s) ∧
    ((∀ s', Inv X pins σ H s' → Q (.bool (!o.isSome)) s') → wpAny (model X.prog X.w) A (compareOp .NotIn u (.ref a)) Q E s) := by
  rcases g with g | ⟨kvs, k, b, e, rfl, eb, rfl⟩
  · exact ⟨d_in hu I (.inl g) ry, d_notIn hu I (.inl g) ry⟩
  · obtain ⟨tab, m, lies, isk, rel⟩ := tab_at I e eb
    have same := opt_some _ rel
    cases ry
    constructor
    all_goals intro h
    · exact wpAny_in_heap (tupleKind_room_in1 hu) isk m lies (same ▸ h _ (I.tok _))
    · exact wpAny_notIn_heap (tupleKind_room_in1 hu) isk m lies (same ▸ h _ (I.tok _))
theorem dA_getItem {Q : Value → Shared → Prop} (hu : A.units + 1 < cLine) (I : Inv X pins σ H s) (g : DGetA X.K H a y (some v)) (ry : RelV y u) (h : ∀ w' s', Inv X pins σ H s' → RelV v w' → Q w' s') :
    wpAny (model X.prog X.w) A (getItem (.ref a) u) Q E s := match g with
  | .inl g => d_getItem hu I (.inl g) ry h
  | .inr ⟨_, k, _, e, ey, eb, l⟩ => by
    obtain ⟨tab, _, lies, isk, rel⟩ := tab_at I e eb
    rw [← l] at rel
    rw [ey] at ry
    cases ry
    cases ht : atKey tab k with
    | none => rw [ht] at rel; cases rel
    | some p =>
      rw [ht] at rel
      exact wpAny_getItem_heap (tupleKind_room_in1 hu) isk lies ht (h p.2 _ (I.tok _) rel)
theorem dictA_typeIs (I : Inv X pins σ H s) (g : DGetA X.K H a y o) : s.TypeIs (.ref a) "dict" := match g with
  | .inl ⟨_, _, e, _⟩ => (dk_rd I.hok e).2.2.elim fun _ z => z.2.typeIs
  | .inr ⟨_, _, _, e, _, eb, _⟩ => (tab_at I e eb).elim fun _ z => z.2.1.typeIs
theorem op_inDA (hu : X.A.units + 1 < cLine) : OpR X (compareOp .In) (fun x y H Q => ∃ a o, y = .ref a ∧ DGetA X.K H a x o ∧ Q (.bl o.isSome) H) :=
  fun _ _ _ H _ _ _ _ _ I rx ry ⟨_, o, ey, g, q⟩ => by
    subst ey
    cases ry
    exact (dA_isin hu I g rx).1 fun _ I3 => ⟨.bl o.isSome, H, I3, rfl, q⟩
theorem op_notInDA (hu : X.A.units + 1 < cLine) : OpR X (compareOp .NotIn) (fun x y H Q => ∃ a o, y = .ref a ∧ DGetA X.K H a x o ∧ Q (.bl (!o.isSome)) H) :=
  fun _ _ _ H _ _ _ _ _ I rx ry ⟨_, o, ey, g, q⟩ => by
    subst ey
    cases ry
    exact (dA_isin hu I g rx).2 fun _ I3 => ⟨.bl (!o.isSome), H, I3, rfl, q⟩
theorem ix_DA (hu : X.A.units + 1 < cLine) : IxR X (fun x y H Q => ∃ a v, x = .ref a ∧ DGetA X.K H a y (some v) ∧ Q v H) :=
  fun _ _ _ _ _ H _ _ _ _ _ I rx ry ⟨_, w, ex, g, q⟩ hs => by
    subst ex
    cases rx
    exact tail_any (dictA_typeIs I g) PySem.F.slot_dict_getitem.lookup (dA_getItem hu I g ry fun _ _ I3 r => ⟨w, H, I3, r, q⟩) hs
end
/-- the option of a look-up in a dict, as data -/
def lookD : D → D → Option (Option D)
  | .dic l, d => (keyOf d).map (lookK l)
  | .dit l, d => (tkeyOf d).map (lookT l)
  | _, _ => none
theorem lookD_rep {K : PySem.W.Frag} {Hs H : Hp} {x y : V} {t d : D} {o : Option D} (sb : Same Hs H) (rx : Rep K Hs x t) (ry : Rep K Hs y d) (e : lookD t d = some o) : ∃ a ov, x = .ref a ∧ DGetA K H a y ov ∧ RelR K Hs ov o := by
  unfold lookD at e
  split at e
  · cases ek : keyOf d with
    | none => rw [ek] at e; cases e
    | some k =>
      rw [ek] at e
      have e2 := Option.some.inj e
      subst e2
      cases rx with
      | dic h1 r1 => exact ⟨_, _, rfl, .inl ⟨_, k, .inl (sb _ _ h1), keyOf_rep ek ry, rfl⟩, r1.look⟩
  · cases ek : tkeyOf d with
    | none => rw [ek] at e; cases e
    | some k =>
      rw [ek] at e
      have e2 := Option.some.inj e
      subst e2
      cases rx with
      | dit h1 r1 =>
        unfold tkeyOf at ek
        split at ek
        · cases ry with
          | tup h2 r2 =>
            have e3 := keysOf_rep ek r2
            subst e3
            exact ⟨_, _, rfl, .inr ⟨_, k, _, .inl (sb _ _ h1), rfl, same_sqt sb h2, rfl⟩, r1.look⟩
        · cases ek
  · cases e

/-! ### in, is -/
def inB : D → D → Option Bool
  | .str x, .str y => some (!(Builtin.Str.occurrences y x 0 y.length 1).isEmpty)
  | d, .lst l => if D.sh 60 d && D.shs 59 l then some (l.any fun z => D.eqv z d) else none
  | d, .tup l => if D.sh 60 d && D.shs 59 l then some (l.any fun z => D.eqv z d) else none
  | d, .dic l => (lookD (.dic l) d).map (·.isSome)
  | d, .dit l => (lookD (.dit l) d).map (·.isSome)
  | _, _ => none
def inD (d e : D) : Option Vn := (inB d e).map fun b => .v (.bl b)
def notInD (d e : D) : Option Vn := (inB d e).map fun b => .v (.bl (!b))
def isB : D → D → Option Bool
  | .bl a, .bl b => some (decide (a = b))
  | .non, .non => some true
  | .bl _, .non | .int _, .non | .str _, .non | .tup _, .non | .lst _, .non | .scr _, .non | .ins _ _, .non | .exn _ _, .non => some false
  | _, _ => none
def isD (d e : D) : Option Vn := (isB d e).map fun b => .v (.bl b)
def isNotD (d e : D) : Option Vn := (isB d e).map fun b => .v (.bl (!b))
section
variable {K : PySem.W.Frag} {H : Hp}
theorem Rep.nonIff {v : V} {d : D} (h : Rep K H v d) : (v = .non ↔ d = .non) := by
  cases h <;> simp
theorem any_py (n : Nat) (d : D) (hd : D.sh n d = true) : ∀ l : List D, D.shs n l = true → ((D.pys l).any fun z => PyData.eqv z d.py) = l.any fun z => D.eqv z d
  | [], _ => rfl
  | x :: r, h => by
    unfold D.shs at h
    rw [Bool.and_eq_true] at h
    show ((x.py :: D.pys r).any _) = _
    rw [List.any_cons, List.any_cons, eqv_py n x d h.1 hd, any_py n d hd r h.2]
mutual
theorem D.sh_up : ∀ (n : Nat) (d : D), D.sh n d = true → D.sh (n + 1) d = true
  | n, d, h => by
    cases d <;> first
      | (simp [D.sh]; done)
      | (simp only [D.sh] at h ⊢; exact h)
      | (cases n <;> simp [D.sh] at h; done)
      | (cases n with
         | zero => simp [D.sh] at h
         | succ n =>
           unfold D.sh at h ⊢
           exact D.shs_up n _ h)
theorem D.shs_up : ∀ (n : Nat) (d : List D), D.shs n d = true → D.shs (n + 1) d = true
  | _, [], _ => by simp [D.shs]
  | n, x :: xs, h => by
    unfold D.shs at h ⊢
    rw [Bool.and_eq_true] at h ⊢
    exact ⟨D.sh_up n x h.1, D.shs_up n xs h.2⟩
end
end
section
variable {X : Cx}
def rInT (K : PySem.W.Frag) (neg : Bool) : R2 := fun x y H Q => ∃ d ds, Dp K H x d ∧ Dp K H y (.tuple ds) ∧ SeqAt.shaped d = true ∧ PyData.canLayAll0 ds = true ∧ Q (.bl (if neg then !(ds.any fun z => PyData.eqv z d) else ds.any fun z => PyData.eqv z d)) H
theorem op_inT (hu : X.A.units + 65 < cLine) : OpR X (compareOp .In) (rInT X.K false) := fun _ _ _ H x y v u _ I rx ry ⟨d, ds, hd, he, sd, se, q⟩ =>
  match Dp.reads I (.tuple ds) y u he ry, Dp.reads I d x v hd rx with
  | ⟨_, ty⟩, ⟨_, tx⟩ => SeqAt.in_tuple_reads ty tx se (SeqAt.canLay_of_shaped sd) (room_in_shaped sd hu) ⟨.bl _, H, I, rfl, q⟩
theorem op_notInT (hu : X.A.units + 65 < cLine) : OpR X (compareOp .NotIn) (rInT X.K true) := fun _ _ _ H x y v u _ I rx ry ⟨d, ds, hd, he, sd, se, q⟩ =>
  match Dp.reads I (.tuple ds) y u he ry, Dp.reads I d x v hd rx with
  | ⟨_, ty⟩, ⟨_, tx⟩ => SeqAt.notIn_tuple_reads ty tx se (SeqAt.canLay_of_shaped sd) (room_in_shaped sd hu) ⟨.bl _, H, I, rfl, q⟩
theorem map_is {o : Option (Option D)} {b : Bool} (h : o.map (·.isSome) = some b) : ∃ p, o = some p ∧ b = p.isSome := by
  cases o with
  | none => cases h
  | some p => exact ⟨p, rfl, (Option.some.inj h).symm⟩
theorem inB_cases {d e : D} {b : Bool} (h : inB d e = some b) : (∃ x y, d = .str x ∧ e = .str y ∧ b = !(Builtin.Str.occurrences y x 0 y.length 1).isEmpty) ∨
    (∃ l, (e = .lst l ∨ e = .tup l) ∧ D.sh 60 d = true ∧ D.shs 59 l = true ∧ b = l.any fun z => D.eqv z d) ∨ (∃ o, lookD e d = some o ∧ b = o.isSome) := by
  unfold inB at h
  split at h
  · exact .inl ⟨_, _, rfl, rfl, (Option.some.inj h).symm⟩
  · split at h
    · rename_i q
      rw [Bool.and_eq_true] at q
      exact .inr (.inl ⟨_, .inl rfl, q.1, q.2, (Option.some.inj h).symm⟩)
    · cases h
  · split at h
    · rename_i q
      rw [Bool.and_eq_true] at q
      exact .inr (.inl ⟨_, .inr rfl, q.1, q.2, (Option.some.inj h).symm⟩)
    · cases h
  · obtain ⟨p, e, rfl⟩ := map_is h
    exact .inr (.inr ⟨p, e, rfl⟩)
  · obtain ⟨p, e, rfl⟩ := map_is h
    exact .inr (.inr ⟨p, e, rfl⟩)
  · cases h
theorem map_b {o : Option Bool} {f : Bool → Vn} {u : Vn} (h : o.map f = some u) : ∃ b, o = some b ∧ u = f b := by
  cases o with
  | none => cases h
  | some b => exact ⟨b, rfl, (Option.some.inj h).symm⟩
theorem opd_in (hu : X.A.units + 65 < cLine) : OpD X (compareOp .In) inD := OpR.weak (op_in_str.or ((op_inD hu).or ((op_inT hu).or (op_inDA (by omega))))) fun x y H Q ⟨Hs, d, e, u, sb, rx, ry, eg, q⟩ => by
  obtain ⟨b, eb, rfl⟩ := map_b eg
  rcases inB_cases eb with ⟨x1, y1, rfl, rfl, rfl⟩ | ⟨l, hl, h1, h2, rfl⟩ | ⟨o, eo, rfl⟩
  · cases rx
    cases ry
    exact .inl ⟨_, _, rfl, rfl, endV.here sb q (.bl _)⟩
  · have d1 := Rep.dp 60 d x h1 (rx.mono sb)
    have s2 := shs_lay 59 l h2
    have q2 := endV.here sb q (.bl _)
    rw [← any_py 60 d h1 l (D.shs_up 59 l h2)] at q2
    rcases hl with rfl | rfl
    · have h3 : D.sh 60 (.lst l) = true := by unfold D.sh; exact h2
      have d2 := Rep.dp 60 _ y h3 (ry.mono sb)
      exact .inr (.inl ⟨_, _, d1, d2, sh_shaped h1, sh_shaped h3, q2⟩)
    · have h3 : D.sh 60 (.tup l) = true := by unfold D.sh; exact h2
      have d2 := Rep.dp 60 _ y h3 (ry.mono sb)
      exact .inr (.inr (.inl ⟨_, _, d1, d2, sh_shaped h1, s2.1, q2⟩))
  · obtain ⟨a, ov, ey, g, rr⟩ := lookD_rep sb ry rx eo
    refine .inr (.inr (.inr ⟨a, ov, ey, g, ?_⟩))
    rw [rr.isSome]
    exact endV.here sb q (.bl _)
theorem opd_notIn (hu : X.A.units + 65 < cLine) : OpD X (compareOp .NotIn) notInD := OpR.weak (op_notin_str.or ((op_notInD hu).or ((op_notInT hu).or (op_notInDA (by omega))))) fun x y H Q ⟨Hs, d, e, u, sb, rx, ry, eg, q⟩ => by
  obtain ⟨b, eb, rfl⟩ := map_b eg
  rcases inB_cases eb with ⟨x1, y1, rfl, rfl, rfl⟩ | ⟨l, hl, h1, h2, rfl⟩ | ⟨o, eo, rfl⟩
  · cases rx
    cases ry
    exact .inl ⟨_, _, rfl, rfl, endV.here sb q (.bl _)⟩
  · have d1 := Rep.dp 60 d x h1 (rx.mono sb)
    have s2 := shs_lay 59 l h2
    have q2 := endV.here sb q (.bl _)
    rw [← any_py 60 d h1 l (D.shs_up 59 l h2)] at q2
    rcases hl with rfl | rfl
    · have h3 : D.sh 60 (.lst l) = true := by unfold D.sh; exact h2
      have d2 := Rep.dp 60 _ y h3 (ry.mono sb)
      exact .inr (.inl ⟨_, _, d1, d2, sh_shaped h1, sh_shaped h3, q2⟩)
    · have h3 : D.sh 60 (.tup l) = true := by unfold D.sh; exact h2
      have d2 := Rep.dp 60 _ y h3 (ry.mono sb)
      exact .inr (.inr (.inl ⟨_, _, d1, d2, sh_shaped h1, s2.1, q2⟩))
  · obtain ⟨a, ov, ey, g, rr⟩ := lookD_rep sb ry rx eo
    refine .inr (.inr (.inr ⟨a, ov, ey, g, ?_⟩))
    rw [rr.isSome]
    exact endV.here sb q (.bl _)
theorem isB_cases {d e : D} {b : Bool} (h : isB d e = some b) : (∃ x y, d = .bl x ∧ e = .bl y ∧ b = decide (x = y)) ∨ (e = .non ∧ (b = true ↔ d = .non)) := by
  unfold isB at h
  split at h
  · exact .inl ⟨_, _, rfl, rfl, (Option.some.inj h).symm⟩
  · exact .inr ⟨rfl, by have := Option.some.inj h; subst this; simp⟩
  all_goals first
    | (refine .inr ⟨rfl, ?_⟩; have e2 := Option.some.inj h; subst e2; constructor <;> intro z <;> cases z; done)
    | (cases h; done)
theorem opd_is : OpD X (compareOp .Is) isD := OpR.weak (op_is_bl.or op_isN) fun x y H Q ⟨Hs, d, e, u, sb, rx, ry, eg, q⟩ => by
  obtain ⟨b, eb, rfl⟩ := map_b eg
  rcases isB_cases eb with ⟨x1, y1, rfl, rfl, rfl⟩ | ⟨rfl, hb⟩
  · cases rx
    cases ry
    exact .inl ⟨_, _, rfl, rfl, endV.here sb q (.bl _)⟩
  · have ey : y = .non := ry.nonIff.mpr rfl
    have e : decide (x = .non) = b := by
      cases b with
      | true => exact decide_eq_true (rx.nonIff.mpr (hb.mp rfl))
      | false => exact decide_eq_false fun z => Bool.noConfusion (hb.mpr (rx.nonIff.mp z))
    exact .inr ⟨ey, by rw [e]; exact endV.here sb q (.bl _)⟩
theorem opd_isNot : OpD X (compareOp .IsNot) isNotD := OpR.weak (op_isnot_bl.or op_notN) fun x y H Q ⟨Hs, d, e, u, sb, rx, ry, eg, q⟩ => by
  obtain ⟨b, eb, rfl⟩ := map_b eg
  rcases isB_cases eb with ⟨x1, y1, rfl, rfl, rfl⟩ | ⟨rfl, hb⟩
  · cases rx
    cases ry
    exact .inl ⟨_, _, rfl, rfl, endV.here sb q (.bl _)⟩
  · have ey : y = .non := ry.nonIff.mpr rfl
    have e : decide (x = .non) = b := by
      cases b with
      | true => exact decide_eq_true (rx.nonIff.mpr (hb.mp rfl))
      | false => exact decide_eq_false fun z => Bool.noConfusion (hb.mpr (rx.nonIff.mp z))
    exact .inr ⟨ey, by rw [e]; exact endV.here sb q (.bl _)⟩
end

/-! ### truth, tests -/
def truD : D → Option Bool
  | .non => some false
  | .bl b => some b
  | .int i => some (i != 0)
  | .str x => if x.length ≤ sizeLine then some (x.length != 0) else none
  | .tup l => some (!l.isEmpty)
  | .lst l => some (!l.isEmpty)
  | .scr l => some (!l.isEmpty)
  | _ => none
inductive Rt | ok (b : Bool) | x (e : D)
abbrev Tv := En → Option Rt
def rdT (K : PySem.W.Frag) (W : WX) (c : Tv) : TT := fun σ H Q => ∃ env Hs r, FrE K env Hs σ H ∧ c env = some r ∧
  match r with
  | .ok b => ∀ Hs' H', Ext Hs H Hs' H' → Q b H'
  | .x e => endX K (WE W σ) Hs H e
abbrev PTD (X : Cx) (W : WX) (e : Expr) (c : Tv) : Prop := PT X e (rdT X.K W c)
abbrev PWD (X : Cx) (W : WX) (e : Expr) (c : Tv) : Prop := PW X e (rdT X.K W c)
def endT (K : PySem.W.Frag) (W : WX) (σ : Sg) (Hs H : Hp) (Q : Bool → Hp → Prop) : Rt → Prop
  | .ok b => ∀ Hs' H', Ext Hs H Hs' H' → Q b H'
  | .x e => endX K (WE W σ) Hs H e
/-- a value's truth -/
def tVal (f : Ev) : Tv := fun env =>
  match f env with
  | none => none
  | some (.x e) => some (.x e)
  | some (.v d) => (truD d).map .ok
  | some (.n d) => (truD d).map .ok
def tNot' (c : Tv) : Tv := fun env =>
  match c env with
  | some (.ok b) => some (.ok (!b))
  | r => r
def tAnd' (c d : Tv) : Tv := fun env =>
  match c env with
  | some (.ok true) => d env
  | r => r
def tOr' (c d : Tv) : Tv := fun env =>
  match c env with
  | some (.ok false) => d env
  | r => r
section
variable {X : Cx} {W : WX} {a b : Expr} {f f' : Ev} {c c' : Tv} {pos : Pos} {rest : List Expr}
theorem Rep.tru {K : PySem.W.Frag} {H : Hp} {v : V} {d : D} {k : Bool} (r : Rep K H v d) (h : truD d = some k) : TruV K v H k := by
  cases r with
  | non => exact (Option.some.inj h).symm
  | bl b => exact (Option.some.inj h).symm
  | int i => exact (Option.some.inj h).symm
  | str x =>
    simp only [truD] at h
    split at h
    · refine ⟨by assumption, ?_⟩
      have := (Option.some.inj h).symm
      rw [this]
      cases x.length with
      | zero => rfl
      | succ n => simp; omega
    · cases h
  | tup h1 r1 =>
    refine .inr (.inl ⟨_, h1.t, ?_⟩)
    rw [← Option.some.inj h]
    cases r1 <;> rfl
  | lst h1 r1 =>
    refine .inl ⟨_, SqL.of h1, ?_⟩
    rw [← Option.some.inj h]
    cases r1 <;> rfl
  | scr h1 r1 =>
    refine .inl ⟨_, h1, ?_⟩
    rw [← Option.some.inj h]
    cases r1 <;> rfl
  | ins h1 r1 => cases h
  | exn h1 r1 => cases h
  | dic h1 r1 => cases h
  | dit h1 r1 => cases h
theorem rd_tval {K : PySem.W.Frag} {σ : Sg} {H : Hp} {Q : Bool → Hp → Prop} {env : En} {Hs : Hp} {r : Rt} {Q1 : VK} (F : FrE K env Hs σ H) (e : tVal f env = some r) (q : endT K W σ Hs H Q r)
    (hk : ∀ v d Hs1 H1 k, Ext Hs H Hs1 H1 → Rep K Hs1 v d → truD d = some k → Q k H1 → Q1 v H1) : rdE K W f σ H Q1 := by
  unfold tVal at e
  cases ef : f env with
  | none => rw [ef] at e; cases e
  | some u =>
    rw [ef] at e
    cases u with
    | x e' =>
      have e2 : r = .x e' := (Option.some.inj e).symm
      subst e2
      exact ⟨env, Hs, _, F, ef, q⟩
    | v d =>
      dsimp only at e
      cases et : truD d with
      | none => rw [et] at e; cases e
      | some k =>
        rw [et] at e
        have e2 := Option.some.inj e
        subst e2
        exact ⟨env, Hs, _, F, ef, fun v Hs1 H1 a rp => hk v d Hs1 H1 k a rp et (q Hs1 H1 a)⟩
    | n d =>
      dsimp only at e
      cases et : truD d with
      | none => rw [et] at e; cases e
      | some k =>
        rw [et] at e
        have e2 := Option.some.inj e
        subst e2
        refine ⟨env, Hs, _, F, ef, fun v Hs1 H1 a rp => ?_⟩
        obtain ⟨Hs2, a2, rp2⟩ := rp.share a
        exact hk v d Hs2 H1 k a2 rp2 et (q Hs2 H1 a2)
theorem ptd_val (h : PD X W a f) (he : ∀ whole, isTrue a X.env whole = (do let v ← whole; standAt a.pos; holding [v] (truthy v)) := by intro _; rfl) : PTD X W a (tVal f) :=
  PT.weak (pt_truth h he) fun σ H Q ⟨env, Hs, r, F, e, q⟩ => rd_tval F e (by cases r <;> exact q) fun v d Hs1 H1 k a1 rp et q1 => ⟨k, (rp.mono a1.sub).tru et, q1⟩
/-- a comparison's value -/
def tBl (f : Ev) : Tv := fun env =>
  match f env with
  | some (.x e) => some (.x e)
  | some (.v (.bl b)) => some (.ok b)
  | _ => none
theorem ptd_cmp {op : CmpOp} {g : D → D → Option Vn} (ho : OpD X (compareOp op) g) (ha : PD X W a f) (hb : PD X W b f') (hm : behindInMarks op b = false) : PTD X W (.Compare a [op] [b] pos) (tBl (cOp g f f')) :=
  PT.weak (pt_cmpR ho ha hb hm) fun σ H Q ⟨env, Hs, r, F, e, q⟩ => by
    unfold tBl at e
    split at e
    · rename_i e' ef
      have e2 := (Option.some.inj e)
      subst e2
      exact rd_two (r := .x e') F ef q
    · rename_i b' ef
      have e2 := (Option.some.inj e)
      subst e2
      exact rd_two (r := .v (.bl b')) F ef fun v Hs1 H1 a1 rp => by
        cases rp
        exact ⟨_, rfl, q Hs1 H1 a1⟩
    · cases e
theorem ptd_not (h : PTD X W a c) : PTD X W (.UnaryOp .Not a pos) (tNot' c) := PT.weak (pt_not h) fun σ H Q ⟨env, Hs, r, F, e, q⟩ => by
  unfold tNot' at e
  split at e
  · rename_i b ec
    have e2 := Option.some.inj e
    subst e2
    exact ⟨env, Hs, _, F, ec, q⟩
  · rename_i r1 hn
    cases r with
    | ok b => exact absurd e (fun z => hn b z)
    | x e' => exact ⟨env, Hs, _, F, e, q⟩
theorem pwd_and1 (h : PTD X W a c) : PWD X W (.BoolOp .And [a] pos) c := pw_and1 h
theorem pwd_or1 (h : PTD X W a c) : PWD X W (.BoolOp .Or [a] pos) c := pw_or1 h
theorem pwd_and (ha : PTD X W a c) (hb : PWD X W (.BoolOp .And (b :: rest) pos) c') : PWD X W (.BoolOp .And (a :: b :: rest) pos) (tAnd' c c') := PW.weak (pw_and ha hb) fun σ H Q ⟨env, Hs, r, F, e, q⟩ => by
  unfold tAnd' at e
  split at e
  · rename_i ec
    exact ⟨env, Hs, _, F, ec, fun Hs1 H1 a1 => by
      (try dsimp only); rw [if_pos rfl]
      refine ⟨env, Hs1, r, F.ext a1, e, ?_⟩
      cases r with
      | ok b => exact fun Hs2 H2 a2 => q Hs2 H2 (a1.trans a2)
      | x e' => exact fun cl dd Hs2 H2 a2 z => q cl dd Hs2 H2 (a1.trans a2) z⟩
  · rename_i r1 hn
    refine ⟨env, Hs, r, F, e, ?_⟩
    cases r with
    | ok b =>
      cases b with
      | true => exact absurd e hn
      | false => exact fun Hs1 H1 a1 => by (try dsimp only); rw [if_neg Bool.false_ne_true]; exact q Hs1 H1 a1
    | x e' => exact q
theorem pwd_or (ha : PTD X W a c) (hb : PWD X W (.BoolOp .Or (b :: rest) pos) c') : PWD X W (.BoolOp .Or (a :: b :: rest) pos) (tOr' c c') := PW.weak (pw_or ha hb) fun σ H Q ⟨env, Hs, r, F, e, q⟩ => by
  unfold tOr' at e
  split at e
  · rename_i ec
    exact ⟨env, Hs, _, F, ec, fun Hs1 H1 a1 => by
      (try dsimp only); rw [if_neg Bool.false_ne_true]
      refine ⟨env, Hs1, r, F.ext a1, e, ?_⟩
      cases r with
      | ok b => exact fun Hs2 H2 a2 => q Hs2 H2 (a1.trans a2)
      | x e' => exact fun cl dd Hs2 H2 a2 z => q cl dd Hs2 H2 (a1.trans a2) z⟩
  · rename_i r1 hn
    refine ⟨env, Hs, r, F, e, ?_⟩
    cases r with
    | ok b =>
      cases b with
      | false => exact absurd e hn
      | true => exact fun Hs1 H1 a1 => by (try dsimp only); rw [if_pos rfl]; exact q Hs1 H1 a1
    | x e' => exact q
/-! values of and, or, not -/
def cOr (f g : Ev) : Ev := fun env => bindR (f env) fun d => match truD d with
  | some true => some (.v d)
  | some false => g env
  | none => none
def cAnd (f g : Ev) : Ev := fun env => bindR (f env) fun d => match truD d with
  | some true => g env
  | some false => some (.v d)
  | none => none
def cNot (f : Ev) : Ev := fun env => bindR (f env) fun d => (truD d).map fun b => .v (.bl (!b))
theorem pd_one {op} (h : PD X W a f) : PD X W (.BoolOp op [a] pos) f := pe_one h
theorem pd_or (ha : PD X W a f) (hb : PD X W (.BoolOp .Or (b :: rest) pos) f') : PD X W (.BoolOp .Or (a :: b :: rest) pos) (cOr f f') :=
  pd_of (pe_orT ha hb) fun σ H Q env Hs r F e q => rd_bind F e q fun v d Hs1 H1 a1 F1 r1 e1 q1 => by
    cases et : truD d with
    | none => rw [et] at e1; cases e1
    | some k =>
      rw [et] at e1
      refine ⟨k, (r1.mono F1.sub).tru et, ?_⟩
      cases k with
      | true =>
        have e2 := Option.some.inj e1
        subst e2
        (try dsimp only); rw [if_pos rfl]
        exact endV.here F1.sub q1 r1
      | false =>
        (try dsimp only); rw [if_neg Bool.false_ne_true]
        exact ⟨env, Hs1, r, F1, e1, q1⟩
theorem pd_and (ha : PD X W a f) (hb : PD X W (.BoolOp .And (b :: rest) pos) f') : PD X W (.BoolOp .And (a :: b :: rest) pos) (cAnd f f') :=
  pd_of (pe_andT ha hb) fun σ H Q env Hs r F e q => rd_bind F e q fun v d Hs1 H1 a1 F1 r1 e1 q1 => by
    cases et : truD d with
    | none => rw [et] at e1; cases e1
    | some k =>
      rw [et] at e1
      refine ⟨k, (r1.mono F1.sub).tru et, ?_⟩
      cases k with
      | false =>
        have e2 := Option.some.inj e1
        subst e2
        (try dsimp only); rw [if_neg Bool.false_ne_true]
        exact endV.here F1.sub q1 r1
      | true =>
        (try dsimp only); rw [if_pos rfl]
        exact ⟨env, Hs1, r, F1, e1, q1⟩
theorem pd_not (ha : PD X W a f) : PD X W (.UnaryOp .Not a pos) (cNot f) :=
  pd_of (pe_notT ha) fun σ H Q env Hs r F e q => rd_bind F e q fun v d Hs1 H1 a1 F1 r1 e1 q1 => by
    cases et : truD d with
    | none => rw [et] at e1; cases e1
    | some k =>
      rw [et] at e1
      have e2 := Option.some.inj e1
      subst e2
      exact ⟨k, (r1.mono F1.sub).tru et, endV.here F1.sub q1 (.bl _)⟩
def cIte (c : Tv) (f g : Ev) : Ev := fun env =>
  match c env with
  | some (.ok true) => f env
  | some (.ok false) => g env
  | some (.x e) => some (.x e)
  | none => none
theorem pd_ite {t : Expr} (hc : PTD X W t c) (ha : PD X W a f) (hb : PD X W b f') : PD X W (.IfExp t a b pos) (cIte c f f') :=
  pd_of (pe_ifExp hc ha hb) fun σ H Q env Hs r F e q => by
    unfold cIte at e
    split at e
    · rename_i ec
      exact ⟨env, Hs, _, F, ec, fun Hs1 H1 a1 => by (try dsimp only); rw [if_pos rfl]; exact ⟨env, Hs1, r, F.ext a1, e, q.ext a1⟩⟩
    · rename_i ec
      exact ⟨env, Hs, _, F, ec, fun Hs1 H1 a1 => by (try dsimp only); rw [if_neg Bool.false_ne_true]; exact ⟨env, Hs1, r, F.ext a1, e, q.ext a1⟩⟩
    · rename_i e' ec
      have e2 := Option.some.inj e
      subst e2
      exact ⟨env, Hs, _, F, ec, q⟩
    · cases e
/-! chains of two comparisons -/
def cChain (g g' : D → D → Option Vn) (f1 f2 f3 : Ev) : Ev := fun env => bindR (f1 env) fun x => bindR (f2 env) fun y =>
  match g x y with
  | some (.v (.bl true)) => bindR (f3 env) fun z => (g' y z).map Vn.r
  | some (.v (.bl false)) => some (.v (.bl false))
  | _ => none
theorem rd_chain {K : PySem.W.Frag} {g g' : D → D → Option Vn} {f1 f2 f3 : Ev} {σ : Sg} {H : Hp} {Q : VK} {env : En} {Hs : Hp} {r : Rs} (F : FrE K env Hs σ H) (e : cChain g g' f1 f2 f3 env = some r) (q : endE K (WE W σ) Hs H Q r) :
    tChain (rdO K g) (rdO K g') (rdE K W f1) (rdE K W f2) (rdE K W f3) σ H Q :=
  rd_bind F e q fun v d Hs1 H1 a1 F1 r1 e1 q1 => rd_bind F1 e1 q1 fun v2 d2 Hs2 H2 a2 F2 r2 e2 q2 => by
    split at e2
    · rename_i eg
      refine ⟨Hs2, d, d2, _, F2.sub, r1.mono a2.s, r2, eg, fun v Hs3 H3 a3 rp => ?_⟩
      cases rp
      refine ⟨true, rfl, ?_⟩
      (try dsimp only); rw [if_pos rfl]
      exact rd_bind (F2.ext a3) e2 (q2.ext a3) fun v4 d4 Hs4 H4 a4 F4 r4 e4 q4 => by
        obtain ⟨u, h1, rfl⟩ := map_r e4
        exact ⟨Hs4, d2, d4, u, F4.sub, (r2.mono a3.s).mono a4.s, r4, h1, endV.r q4⟩
    · rename_i eg
      refine ⟨Hs2, d, d2, _, F2.sub, r1.mono a2.s, r2, eg, fun v Hs3 H3 a3 rp => ?_⟩
      cases rp
      refine ⟨false, rfl, ?_⟩
      (try dsimp only); rw [if_neg Bool.false_ne_true]
      have e3 := Option.some.inj e2
      subst e3
      exact endV.here a3.sub (q2.ext a3) (.bl _)
    · cases e2
theorem pd_chain {op op' : CmpOp} {g g' : D → D → Option Vn} {d : Expr} {f1 f2 f3 : Ev} (ho : OpD X (compareOp op) g) (ho' : OpD X (compareOp op') g') (ha : PD X W a f1) (hb : PD X W b f2) (hc : PD X W d f3)
    (hm : lastMarks [op, op'] [b, d] = false := by with_unfolding_all rfl) : PD X W (.Compare a [op, op'] [b, d] pos) (cChain g g' f1 f2 f3) :=
  pd_of (pe_chain ho ho' ha hb hc hm) fun σ H Q env Hs r F e q => rd_chain F e q
theorem ptd_chain {op op' : CmpOp} {g g' : D → D → Option Vn} {d : Expr} {f1 f2 f3 : Ev} (ho : OpD X (compareOp op) g) (ho' : OpD X (compareOp op') g') (ha : PD X W a f1) (hb : PD X W b f2) (hc : PD X W d f3)
    (hm : lastMarks [op, op'] [b, d] = false := by with_unfolding_all rfl) : PTD X W (.Compare a [op, op'] [b, d] pos) (tBl (cChain g g' f1 f2 f3)) :=
  PT.weak (pt_chain ho ho' ha hb hc hm) fun σ H Q ⟨env, Hs, r, F, e, q⟩ => by
    unfold tBl at e
    split at e
    · rename_i e' ef
      have e2 := (Option.some.inj e)
      subst e2
      exact rd_chain (r := .x e') F ef q
    · rename_i b' ef
      have e2 := (Option.some.inj e)
      subst e2
      exact rd_chain (r := .v (.bl b')) F ef fun v Hs1 H1 a1 rp => by
        cases rp
        exact ⟨_, rfl, q Hs1 H1 a1⟩
    · cases e
end
end HD

set_option Elab.async false
set_option linter.all false
set_option maxRecDepth 100000
set_option maxHeartbeats 4000000
/-! HDd: subscripts, slices, displays, fields; calls of defs, of built-ins. -/
namespace HD
open PySem PySem.Spec PyProof.Rows L2

/-! ### subscripts -/
def ixD : D → D → Option Vn
  | .tup l, .int i => (atI l i).map .v
  | .lst l, .int i => (atI l i).map .v
  | .scr l, .int i => (atI l i).map .v
  | .str z, .int i => if z.length ≤ sizeLine then (atI z.cps.toList i).map fun c => .v (.str ⟨#[c]⟩) else none
  | .dic l, d => ((lookD (.dic l) d).bind id).map .v
  | .dit l, d => ((lookD (.dit l) d).bind id).map .v
  | _, _ => none
def cutG {α : Type} (xs : List α) (lo hi : Option Int) : List α := (xs.drop (HT.sIx xs.length 0 lo)).take (HT.sIx xs.length xs.length hi - HT.sIx xs.length 0 lo)
def slD : D → Option Int → Option Int → Option Vn
  | .tup l, lo, hi => some (.v (.tup (cutG l lo hi)))
  | .lst l, lo, hi => some (.n (.lst (cutG l lo hi)))
  | .str z, lo, hi => if z.length ≤ sizeLine then some (.v (.str (cutS z lo hi))) else none
  | _, _, _ => none
theorem map_bd {o : Option (Option D)} {u : Vn} (h : (o.bind id).map Vn.v = some u) : ∃ d, o = some (some d) ∧ u = .v d := by
  rcases o with _ | _ | d
  · cases h
  · cases h
  · exact ⟨d, rfl, (Option.some.inj h).symm⟩
theorem atI_map {α : Type} {l : List α} {i : Int} {f : α → Vn} {u : Vn} (h : (atI l i).map f = some u) : ∃ d, atI l i = some d ∧ u = f d := by
  cases e : atI l i with
  | none => rw [e] at h; cases h
  | some d => rw [e] at h; exact ⟨d, rfl, (Option.some.inj h).symm⟩
section
variable {K : PySem.W.Frag} {H : Hp}
theorem Reps.atI {vs : List V} {ds : List D} {i : Int} {d : D} (r : Reps K H vs ds) (h : atI ds i = some d) : ∃ v, L2.atI vs i = some v ∧ Rep K H v d := by
  unfold L2.atI at h ⊢
  rw [r.length]
  cases e : ixN ds.length i with
  | none => rw [e] at h; cases h
  | some j =>
    rw [e] at h
    exact r.get h
theorem Reps.cut {vs : List V} {ds : List D} (r : Reps K H vs ds) (lo hi : Option Int) : Reps K H (cutV vs lo hi) (cutG ds lo hi) := by
  unfold cutV cutG
  rw [r.length]
  exact (r.drop _).take _
end
section
variable {X : Cx} {W : WX} {a b : Expr} {f f' : Ev} {pos p2 : Pos}
theorem ixd (hu : X.A.units + 1 < cLine) : IxR X (rdO X.K ixD) := fun value slice pins s σ H x y v u Q I rx ry ⟨Hs, d, e, w, sb, r1, r2, eg, q⟩ hs => by
  refine (ix_list.or (ix_tup.or (ix_str.or (ix_DA hu)))) value slice pins s σ H x y v u Q I rx ry ?_ hs
  unfold ixD at eg
  split at eg
  · obtain ⟨z, ez, rfl⟩ := atI_map eg
    cases r2
    cases r1 with
    | tup h1 q1 =>
      obtain ⟨w, e1, e2⟩ := q1.atI ez
      exact .inr (.inl ⟨_, _, _, _, rfl, rfl, same_sqt sb h1, e1, endV.here sb q e2⟩)
  · obtain ⟨z, ez, rfl⟩ := atI_map eg
    cases r2
    cases r1 with
    | lst h1 q1 =>
      obtain ⟨w, e1, e2⟩ := q1.atI ez
      exact .inl ⟨_, _, _, _, rfl, rfl, SqL.of (sb _ _ h1), e1, endV.here sb q e2⟩
  · obtain ⟨z, ez, rfl⟩ := atI_map eg
    cases r2
    cases r1 with
    | scr h1 q1 =>
      obtain ⟨w, e1, e2⟩ := q1.atI ez
      exact .inl ⟨_, _, _, _, rfl, rfl, sb.seq h1, e1, endV.here sb q e2⟩
  · split at eg
    · obtain ⟨z, ez, rfl⟩ := atI_map eg
      cases r2
      cases r1
      exact .inr (.inr (.inl ⟨_, _, _, rfl, rfl, by assumption, ez, endV.here sb q (.str _)⟩))
    · cases eg
  · obtain ⟨z, el, rfl⟩ := map_bd eg
    obtain ⟨a, ov, ex, g, rr⟩ := lookD_rep sb r1 r2 el
    obtain ⟨w, rfl, rw2⟩ := rr.get
    exact .inr (.inr (.inr ⟨a, w, ex, g, endV.here sb q rw2⟩))
  · obtain ⟨z, el, rfl⟩ := map_bd eg
    obtain ⟨a, ov, ex, g, rr⟩ := lookD_rep sb r1 r2 el
    obtain ⟨w, rfl, rw2⟩ := rr.get
    exact .inr (.inr (.inr ⟨a, w, ex, g, endV.here sb q rw2⟩))
  · cases eg
theorem pd_ix (hu : X.A.units + 1 < cLine) (ha : PD X W a f) (hb : PD X W b f') (hs : PlainIx b := by exact fun _ _ => rfl) : PD X W (.Subscript a b pos) (cOp ixD f f') :=
  pd_of (pe_ix (ixd hu) ha hb hs) fun σ H Q env Hs r F e q => rd_two F e q
/-! slices -/
def rdSl (K : PySem.W.Frag) : V → Option Int → Option Int → Hp → VK → Prop := fun x lo hi H Q => ∃ Hs d u, Same Hs H ∧ Rep K Hs x d ∧ slD d lo hi = some u ∧ endV K Hs H Q u
theorem SlR.weak {r r' : V → Option Int → Option Int → Hp → VK → Prop} (h : SlR X r) (w : ∀ x lo hi H Q, r' x lo hi H Q → r x lo hi H Q) : SlR X r' :=
  fun pins s σ H x v vl vu lo hi sl Q I rx hs pl pu q => h pins s σ H x v vl vu lo hi sl Q I rx hs pl pu (w x lo hi H Q q)
theorem cutG_all {α : Type} {l : List α} {lo hi : Option Int} (h1 : HT.sIx l.length 0 lo = 0) (h2 : HT.sIx l.length l.length hi = l.length) : cutG l lo hi = l := by
  unfold cutG
  rw [h1, h2]
  simp
theorem sld : SlR X (rdSl X.K) := SlR.weak (sl_tupA.or (sl_list.or sl_str)) fun x lo hi H Q ⟨Hs, d, u, sb, r1, eg, q⟩ => by
  unfold slD at eg
  split at eg
  · have e := Option.some.inj eg
    subst e
    cases r1 with
    | tup h1 q1 =>
      refine .inl ⟨_, _, rfl, same_sqt sb h1, fun ⟨z1, z2⟩ => ?_, fun _ p hp => endV.newT sb q hp (q1.cut lo hi)⟩
      rw [q1.length] at z1 z2
      rw [cutG_all z1 z2] at q
      exact endV.here sb q (.tup h1 q1)
  · have e := Option.some.inj eg
    subst e
    cases r1 with
    | lst h1 q1 => exact .inr (.inl ⟨_, _, rfl, SqL.of (sb _ _ h1), fun p hp => endV.newN sb q hp (.lst (q1.cut lo hi))⟩)
  · split at eg
    · have e := Option.some.inj eg
      subst e
      cases r1
      exact .inr (.inr ⟨_, rfl, by assumption, endV.here sb q (.str _)⟩)
    · cases eg
  · cases eg
/-- a part of a slice -/
inductive Sp1 | no | at (f : Ev)
def Sp1.run : Sp1 → En → (Option Int → Option Rs) → Option Rs
  | .no, _, k => k none
  | .at f, env, k => bindR (f env) fun d => match d with
    | .int i => k (some i)
    | _ => none
def tSp (K : PySem.W.Frag) (W : WX) : Sp1 → TO
  | .no => tNoPart
  | .at f => tPart (rdE K W f)
structure PSp (X : Cx) (W : WX) (e : Option Expr) (p : Sp1) : Prop where
  po : PO X e (tSp X.K W p)
theorem psp_no : PSp X W none .no := ⟨po_none⟩
theorem psp_at (h : PD X W a f) : PSp X W (some a) (.at f) := ⟨po_some h⟩
theorem sp_bind {K : PySem.W.Frag} {p : Sp1} {k : Option Int → Option Rs} {σ : Sg} {H Hs : Hp} {env : En} {r : Rs} {Q : VK} {Q1 : Option Int → Hp → Prop} (F : FrE K env Hs σ H) (e : p.run env k = some r) (q : endE K (WE W σ) Hs H Q r)
    (hk : ∀ o Hs1 H1, Ext Hs H Hs1 H1 → FrE K env Hs1 σ H1 → k o = some r → endE K (WE W σ) Hs1 H1 Q r → Q1 o H1) : tSp K W p σ H Q1 := by
  cases p with
  | no => exact hk none Hs H (Ext.refl F.sub) F e q
  | «at» f =>
    refine rd_bind F e q fun v d Hs1 H1 a1 F1 r1 e1 q1 => ?_
    split at e1
    · cases r1
      exact ⟨_, rfl, hk _ Hs1 H1 a1 F1 e1 q1⟩
    · cases e1
def cSl (f : Ev) (lo hi : Sp1) : Ev := fun env => bindR (f env) fun d => lo.run env fun l => hi.run env fun h => (slD d l h).map Vn.r
theorem pd_slice {lo hi : Option Expr} {pl ph : Sp1} (ha : PD X W a f) (hl : PSp X W lo pl) (hh : PSp X W hi ph) : PD X W (.Subscript a (.Slice lo hi none p2) pos) (cSl f pl ph) :=
  pd_of (pe_slice sld ha hl.po hh.po) fun σ H Q env Hs r F e q => rd_bind F e q fun v d Hs1 H1 a1 F1 r1 e1 q1 =>
    sp_bind F1 e1 q1 fun l Hs2 H2 a2 F2 e2 q2 => sp_bind F2 e2 q2 fun h Hs3 H3 a3 F3 e3 q3 => by
      obtain ⟨u, h1, rfl⟩ := map_r e3
      exact ⟨Hs3, d, u, F3.sub, (r1.mono a2.s).mono a3.s, h1, endV.r q3⟩
end

/-! ### displays -/
def cTup (fs : List Ev) : Ev := fun env => bindL (evs fs env) fun ds => if ds.length ≤ sizeLine then some (.v (.tup ds)) else none
def cLst (fs : List Ev) : Ev := fun env => bindL (evs fs env) fun ds => if ds.length ≤ sizeLine then some (.n (.lst ds)) else none
section
variable {X : Cx} {W : WX} {a b : Expr} {es : List Expr} {fs : List Ev} {f f' : Ev} {pos p2 : Pos}
theorem pd_tup {x1} (h : PAD X W es fs) : PD X W (.Tuple es x1 pos) (cTup fs) := pd_of (pe_tup h) fun σ H Q env Hs r F e q => rd_bindL F e q fun vs ds Hs1 H1 a1 F1 r1 e1 q1 => by
  split at e1
  · have e2 := Option.some.inj e1
    subst e2
    exact ⟨by rw [r1.length]; assumption, fun p hp => endV.newT F1.sub q1 hp r1⟩
  · cases e1
theorem pd_lst (h : PAD X W es fs) : PD X W (.List es pos) (cLst fs) := pd_of (pe_lst h) fun σ H Q env Hs r F e q => rd_bindL F e q fun vs ds Hs1 H1 a1 F1 r1 e1 q1 => by
  split at e1
  · have e2 := Option.some.inj e1
    subst e2
    exact ⟨by rw [r1.length]; assumption, fun p hp => endV.newN F1.sub q1 hp (.lst r1)⟩
  · cases e1
/-! fields of instances -/
def fldD (cs : List Str) (n : Str) : D → Option Vn
  | .ins C gs => if C ∈ cs then (gs.lookup n).map .v else none
  | _ => none
def cFld (cs : List Str) (n : Str) (f : Ev) : Ev := fun env => bindR (f env) fun d => (fldD cs n d).map Vn.r
theorem RepF.look {K : PySem.W.Frag} {H : Hp} {n : Str} : ∀ {fs : List (Str × V)} {gs : List (Str × D)} {d : D}, RepF K H fs gs → gs.lookup n = some d → ∃ v, fs.lookup n = some v ∧ Rep K H v d
  | _, _, _, .nil, e => by cases e
  | (m, v) :: fs, (_, d) :: gs, d', .cons h r, e => by
    rw [List.lookup_cons] at e ⊢
    split
    · rename_i hm
      rw [hm] at e
      have e2 := Option.some.inj e
      subst e2
      exact ⟨v, rfl, h⟩
    · rename_i hm
      rw [hm] at e
      exact RepF.look r e
theorem pd_fld {n : Str} {cs : List Str} (hc : ∀ C ∈ cs, Cls X.K (He.ga X.K C) ∧ NoAttr X.K (He.ga X.K C) n) (ha : PD X W a f) (hb : attributeBase a n X.env (eval a X.env) = eval a X.env := by rfl) : PD X W (.Attribute a n pos) (cFld cs n f) :=
  pd_of (pe_fld ha hb) fun σ H Q env Hs r F e q => rd_bind F e q fun v d Hs1 H1 a1 F1 r1 e1 q1 => by
    obtain ⟨u, h1, rfl⟩ := map_r e1
    unfold fldD at h1
    split at h1
    · split at h1
      · rename_i C gs hm
        cases r1 with
        | ins h2 r2 =>
          cases el : gs.lookup n with
          | none => rw [el] at h1; cases h1
          | some d =>
            rw [el] at h1
            have e2 := Option.some.inj h1
            subst e2
            obtain ⟨v, e3, r3⟩ := r2.look el
            exact ⟨_, _, _, _, v, rfl, F1.sub _ _ h2, (hc C hm).1, (hc C hm).2, e3, endV.here F1.sub q1 r3⟩
      · cases h1
    · cases h1
end

/-! ### calls of defs -/
/-- what a def that keeps φ promises -/
def spD (K : PySem.W.Frag) (φ : List D → Option Rs) : Sp := fun vs H Q E => ∃ Hs ds r, Same Hs H ∧ Reps K Hs vs ds ∧ φ ds = some r ∧ endE K E Hs H Q r
/-- the def that the module's name x holds keeps φ, by at most level k -/
def Dn (P : Program) (w : World) (K : PySem.W.Frag) (mg : Str → Option Value) (base : Heap) (x : Str) (k : Nat) (φ : List D → Option Rs) : Prop :=
  ∃ f fd ps, FnOk P w K mg base (L2.CX P w) k f fd ps (spD K φ) ∧ mg x = some (.ref f) ∧ PySem.W.keepIn K (.ref f) = true ∧ Binds K fd ps []
def cCall (φ : List D → Option Rs) (fs : List Ev) : Ev := fun env => bindL (evs fs env) φ
section
variable {X : Cx} {W : WX} {a b : Expr} {es : List Expr} {fs : List Ev} {f f' : Ev} {pos p : Pos} {φ : List D → Option Rs} {k : Nat} {x : Str}
theorem pd_call (G : Dn X.prog X.w X.K X.mg X.base x k φ) (hr : Room k X.A) (hg : Gl X x) (tk : Takes X W) (ha : PAD X W (a :: es) fs) (hdb : (x == ("__debug__" : Str)) = false := by decide)
    (he : starEach (a :: es) X.env = (false, eval a X.env) :: starEach es X.env := by rfl) (hpl : (backTo pos (starEach es X.env)).any (·.1) = false := by rfl) : PD X W (.Call (.Name x p) (a :: es) [] pos) (cCall φ fs) := by
  obtain ⟨fa, fd, ps, Fn, hm, hk, hb⟩ := G
  exact pd_of (pe_callS Fn hr hg hm hk hb (passAt tk) ha hdb he hpl) fun σ H Q env Hs r F e q => rd_bindL F e q fun vs ds Hs1 H1 a1 F1 r1 e1 q1 => ⟨Hs1, ds, r, F1.sub, r1, e1, q1⟩
def cCall0 (φ : List D → Option Rs) : Ev := fun _ => match φ [] with
  | some (.v d) => some (.v d)
  | some (.n d) => some (.n d)
  | _ => none
theorem pd_call0 (G : Dn X.prog X.w X.K X.mg X.base x k φ) (hr : Room k X.A) (hg : Gl X x) (hdb : (x == ("__debug__" : Str)) = false := by decide) : PD X W (.Call (.Name x p) [] [] pos) (cCall0 φ) := by
  obtain ⟨fa, fd, ps, Fn, hm, hk, hb⟩ := G
  refine pd_of (pe_call0 Fn hr hg hm hk hb .nil passL hdb) fun σ H Q env Hs r F e q => ?_
  unfold cCall0 at e
  split at e
  · rename_i ep
    have e2 := Option.some.inj e
    subst e2
    exact ⟨Hs, [], _, F.sub, .nil, ep, q⟩
  · rename_i ep
    have e2 := Option.some.inj e
    subst e2
    exact ⟨Hs, [], _, F.sub, .nil, ep, q⟩
  · cases e
end

/-! ### calls of built-ins -/
def rdC (K : PySem.W.Frag) (g : List D → Option Vn) : List V → Hp → VK → Prop := fun vs H Q => ∃ Hs ds u, Same Hs H ∧ Reps K Hs vs ds ∧ g ds = some u ∧ endV K Hs H Q u
abbrev CallD (X : Cx) (f : Value) (g : List D → Option Vn) : Prop := CallR X f (rdC X.K g)
theorem CallR.weak {X : Cx} {f : Value} {r r' : List V → Hp → VK → Prop} (h : CallR X f r) (w : ∀ vs H Q, r' vs H Q → r vs H Q) : CallR X f r' := fun pins s σ H xs us Q I rs q => h pins s σ H xs us Q I rs (w xs H Q q)
theorem CallR.or {X : Cx} {f : Value} {r r' : List V → Hp → VK → Prop} (h : CallR X f r) (h' : CallR X f r') : CallR X f (fun vs H Q => r vs H Q ∨ r' vs H Q) := fun pins s σ H xs us Q I rs q => q.elim (h pins s σ H xs us Q I rs) (h' pins s σ H xs us Q I rs)
def cCB (g : List D → Option Vn) (fs : List Ev) : Ev := fun env => bindL (evs fs env) fun ds => (g ds).map Vn.r
section
variable {X : Cx} {W : WX} {a b : Expr} {es : List Expr} {fs : List Ev} {f f' : Ev} {pos p : Pos} {g : List D → Option Vn} {x : Str} {id T : String}
theorem pd_cb (hc : CallD X (.builtin id) g) (hg : Gl X x) (hm : X.mg x = none) (hv : bootBuiltins x = some (.builtin id)) (ha : PAD X W (a :: es) fs) (hn : x ≠ "__name__" := by decide) (hdb : (x == ("__debug__" : Str)) = false := by decide)
    (he : starEach (a :: es) X.env = (false, eval a X.env) :: starEach es X.env := by rfl) (hpl : (backTo pos (starEach es X.env)).any (·.1) = false := by rfl) : PD X W (.Call (.Name x p) (a :: es) [] pos) (cCB g fs) :=
  pd_of (pe_callB hc hg hm hv ha hn hdb he hpl) fun σ H Q env Hs r F e q => rd_bindL F e q fun vs ds Hs1 H1 a1 F1 r1 e1 q1 => by
    obtain ⟨u, h1, rfl⟩ := map_r e1
    exact ⟨Hs1, ds, u, F1.sub, r1, h1, endV.r q1⟩
theorem pd_ct (hc : CallD X (.type T) g) (hg : Gl X x) (hm : X.mg x = none) (hv : bootBuiltins x = some (.type T)) (ha : PAD X W (a :: es) fs) (hn : x ≠ "__name__" := by decide) (hdb : (x == ("__debug__" : Str)) = false := by decide)
    (he : starEach (a :: es) X.env = (false, eval a X.env) :: starEach es X.env := by rfl) (hpl : (backTo pos (starEach es X.env)).any (·.1) = false := by rfl) : PD X W (.Call (.Name x p) (a :: es) [] pos) (cCB g fs) :=
  pd_of (pe_callTy hc hg hm hv ha hn hdb he hpl) fun σ H Q env Hs r F e q => rd_bindL F e q fun vs ds Hs1 H1 a1 F1 r1 e1 q1 => by
    obtain ⟨u, h1, rfl⟩ := map_r e1
    exact ⟨Hs1, ds, u, F1.sub, r1, h1, endV.r q1⟩
end
/-! ### which built-ins -/
def D.ints : List D → Option (List Int)
  | [] => some []
  | .int i :: r => (D.ints r).map (i :: ·)
  | _ => none
def D.bls : List D → Option (List Bool)
  | [] => some []
  | .bl i :: r => (D.bls r).map (i :: ·)
  | _ => none
theorem ints_rep {K : PySem.W.Frag} {H : Hp} : ∀ {ds : List D} {ns : List Int} {vs : List V}, D.ints ds = some ns → Reps K H vs ds → vs = ns.map V.int
  | [], ns, vs, e, r => by
    cases r
    rw [← Option.some.inj e] <;> rfl
  | d :: ds, ns, vs, e, r => by
    cases r with
    | cons h r =>
      unfold D.ints at e
      split at e
      · rename_i heq
        cases heq
      · rename_i i r2 heq
        cases heq
        cases h
        cases e2 : D.ints ds with
        | none => rw [e2] at e; cases e
        | some ms =>
          rw [e2] at e
          rw [← Option.some.inj e, ints_rep e2 r] <;> rfl
      · cases e
theorem bls_rep {K : PySem.W.Frag} {H : Hp} : ∀ {ds : List D} {ns : List Bool} {vs : List V}, D.bls ds = some ns → Reps K H vs ds → vs = ns.map V.bl
  | [], ns, vs, e, r => by
    cases r
    rw [← Option.some.inj e] <;> rfl
  | d :: ds, ns, vs, e, r => by
    cases r with
    | cons h r =>
      unfold D.bls at e
      split at e
      · rename_i heq
        cases heq
      · rename_i i r2 heq
        cases heq
        cases h
        cases e2 : D.bls ds with
        | none => rw [e2] at e; cases e
        | some ms =>
          rw [e2] at e
          rw [← Option.some.inj e, bls_rep e2 r] <;> rfl
      · cases e
def lenD : D → Option Nat
  | .tup l => some l.length
  | .lst l => some l.length
  | .scr l => some l.length
  | .str x => if x.length ≤ sizeLine then some x.length else none
  | _ => none
def lenC : List D → Option Vn
  | [d] => (lenD d).map fun (n : Nat) => .v (.int (n : Int))
  | _ => none
def absC : List D → Option Vn
  | [.int i] => some (.v (.int (if i < 0 then -i else i)))
  | _ => none
def sumC : List D → Option Vn
  | [.lst l] => (D.ints l).map fun ns => .v (.int ns.sum)
  | _ => none
def allC : List D → Option Vn
  | [.lst l] => (D.bls l).map fun ns => .v (.bl (ns.all id))
  | _ => none
def tupleC : List D → Option Vn
  | [.lst l] => some (.v (.tup l))
  | [.tup l] => some (.v (.tup l))
  | [.scr l] => some (.v (.tup l))
  | _ => none
def listC : List D → Option Vn
  | [.lst l] => some (.n (.lst l))
  | [.tup l] => some (.n (.lst l))
  | [.scr l] => some (.n (.lst l))
  | _ => none
def min2C : List D → Option Vn
  | [.int i, .int j] => some (.v (.int (if j < i then j else i)))
  | _ => none
def intC : List D → Option Vn
  | [.int i] => some (.v (.int i))
  | [.bl b] => some (.v (.int (if b then 1 else 0)))
  | [.str a] => if a.length ≤ 640 then (PySem.intText? a).map fun n => .v (.int n) else none
  | _ => none
def strC : List D → Option Vn
  | [.int i] => if i.natAbs.log2 < 1920 then some (.v (.str (toString i))) else none
  | _ => none
section
variable {X : Cx}
theorem map_u {α : Type} {o : Option α} {f : α → Vn} {u : Vn} (h : o.map f = some u) : ∃ b, o = some b ∧ u = f b := by
  cases o with
  | none => cases h
  | some b => exact ⟨b, rfl, (Option.some.inj h).symm⟩
theorem cd_len : CallD X (.builtin "len") lenC := CallR.weak call_len fun vs H Q ⟨Hs, ds, u, sb, r, eg, q⟩ => by
  unfold lenC at eg
  split at eg
  · obtain ⟨n, e1, rfl⟩ := map_u eg
    cases r with
    | cons h r =>
      cases r
      refine ⟨_, n, rfl, ?_, endV.here sb q (.int _)⟩
      unfold lenD at e1
      split at e1
      · have e2 := Option.some.inj e1
        subst e2
        cases h with
        | tup h1 r1 => exact .inr ⟨_, same_sqt sb h1, r1.length.symm⟩
      · have e2 := Option.some.inj e1
        subst e2
        cases h with
        | lst h1 r1 => exact .inl ⟨_, SqL.of (sb _ _ h1), r1.length.symm⟩
      · have e2 := Option.some.inj e1
        subst e2
        cases h with
        | scr h1 r1 => exact .inl ⟨_, sb.seq h1, r1.length.symm⟩
      · split at e1
        · have e2 := Option.some.inj e1
          subst e2
          cases h
          exact ⟨by assumption, rfl⟩
        · cases e1
      · cases e1
  · cases eg
theorem reps1 {K : PySem.W.Frag} {H : Hp} {vs : List V} {d : D} (r : Reps K H vs [d]) : ∃ v, vs = [v] ∧ Rep K H v d := by
  cases r with
  | cons h r => cases r; exact ⟨_, rfl, h⟩
theorem reps2 {K : PySem.W.Frag} {H : Hp} {vs : List V} {d e : D} (r : Reps K H vs [d, e]) : ∃ v w, vs = [v, w] ∧ Rep K H v d ∧ Rep K H w e := by
  cases r with
  | cons h r =>
    obtain ⟨w, rfl, h2⟩ := reps1 r
    exact ⟨_, _, rfl, h, h2⟩
theorem cd_abs : CallD X (.builtin "abs") absC := CallR.weak call_abs fun vs H Q ⟨Hs, ds, u, sb, r, eg, q⟩ => by
  unfold absC at eg
  split at eg
  · have e2 := Option.some.inj eg
    subst e2
    obtain ⟨v, rfl, h⟩ := reps1 r
    cases h
    exact ⟨_, rfl, endV.here sb q (.int _)⟩
  · cases eg
theorem cd_min2 (hc : X.calm = true) : CallD X (.builtin "min") min2C := CallR.weak (call_min2 hc) fun vs H Q ⟨Hs, ds, u, sb, r, eg, q⟩ => by
  unfold min2C at eg
  split at eg
  · have e2 := Option.some.inj eg
    subst e2
    obtain ⟨v, w, rfl, h, h2⟩ := reps2 r
    cases h
    cases h2
    exact ⟨_, _, rfl, endV.here sb q (.int _)⟩
  · cases eg
theorem cd_sum (hc : X.calm = true) : CallD X (.builtin "sum") sumC := CallR.weak (cr_sum hc) fun vs H Q ⟨Hs, ds, u, sb, r, eg, q⟩ => by
  unfold sumC at eg
  split at eg
  · obtain ⟨ns, e1, rfl⟩ := map_u eg
    obtain ⟨v, rfl, h⟩ := reps1 r
    cases h with
    | lst h1 r1 => exact ⟨_, ns, rfl, by rw [← ints_rep e1 r1]; exact SqL.of (sb _ _ h1), endV.here sb q (.int _)⟩
  · cases eg
theorem cd_all (hc : X.calm = true) : CallD X (.builtin "all") allC := CallR.weak (cr_all hc) fun vs H Q ⟨Hs, ds, u, sb, r, eg, q⟩ => by
  unfold allC at eg
  split at eg
  · obtain ⟨ns, e1, rfl⟩ := map_u eg
    obtain ⟨v, rfl, h⟩ := reps1 r
    cases h with
    | lst h1 r1 => exact ⟨_, ns, rfl, by rw [← bls_rep e1 r1]; exact SqL.of (sb _ _ h1), endV.here sb q (.bl _)⟩
  · cases eg
theorem cd_tuple : CallD X (.type "tuple") tupleC := CallR.weak call_tuple_of fun vs H Q ⟨Hs, ds, u, sb, r, eg, q⟩ => by
  unfold tupleC at eg
  split at eg
  · have e2 := Option.some.inj eg
    subst e2
    obtain ⟨v, rfl, h⟩ := reps1 r
    cases h with
    | lst h1 r1 => exact ⟨_, _, rfl, .inl ⟨SqL.of (sb _ _ h1), fun l hl => endV.newT sb q hl r1⟩⟩
  · have e2 := Option.some.inj eg
    subst e2
    obtain ⟨v, rfl, h⟩ := reps1 r
    cases h with
    | tup h1 r1 => exact ⟨_, _, rfl, .inr ⟨same_sqt sb h1.t, endV.here sb q (.tup h1 r1)⟩⟩
  · have e2 := Option.some.inj eg
    subst e2
    obtain ⟨v, rfl, h⟩ := reps1 r
    cases h with
    | scr h1 r1 => exact ⟨_, _, rfl, .inl ⟨sb.seq h1, fun l hl => endV.newT sb q hl r1⟩⟩
  · cases eg
theorem cd_list : CallD X (.type "list") listC := CallR.weak call_list_of fun vs H Q ⟨Hs, ds, u, sb, r, eg, q⟩ => by
  unfold listC at eg
  split at eg
  · have e2 := Option.some.inj eg
    subst e2
    obtain ⟨v, rfl, h⟩ := reps1 r
    cases h with
    | lst h1 r1 => exact ⟨_, _, rfl, .inl (SqL.of (sb _ _ h1)), fun l hl => endV.newN sb q hl (.lst r1)⟩
  · have e2 := Option.some.inj eg
    subst e2
    obtain ⟨v, rfl, h⟩ := reps1 r
    cases h with
    | tup h1 r1 => exact ⟨_, _, rfl, .inr (same_sqt sb h1), fun l hl => endV.newN sb q hl (.lst r1)⟩
  · have e2 := Option.some.inj eg
    subst e2
    obtain ⟨v, rfl, h⟩ := reps1 r
    cases h with
    | scr h1 r1 => exact ⟨_, _, rfl, .inl (sb.seq h1), fun l hl => endV.newN sb q hl (.lst r1)⟩
  · cases eg
theorem cd_int : CallD X (.type "int") intC := CallR.weak (call_int1.or call_int_str) fun vs H Q ⟨Hs, ds, u, sb, r, eg, q⟩ => by
  unfold intC at eg
  split at eg
  · have e2 := Option.some.inj eg
    subst e2
    obtain ⟨v, rfl, h⟩ := reps1 r
    cases h
    exact .inl (.inl ⟨_, rfl, endV.here sb q (.int _)⟩)
  · have e2 := Option.some.inj eg
    subst e2
    obtain ⟨v, rfl, h⟩ := reps1 r
    cases h
    exact .inl (.inr ⟨_, rfl, endV.here sb q (.int _)⟩)
  · split at eg
    · obtain ⟨n, e1, rfl⟩ := map_u eg
      obtain ⟨v, rfl, h⟩ := reps1 r
      cases h
      exact .inr ⟨_, n, rfl, e1, by assumption, endV.here sb q (.int _)⟩
    · cases eg
  · cases eg
theorem cd_str : CallD X (.type "str") strC := CallR.weak call_str_int fun vs H Q ⟨Hs, ds, u, sb, r, eg, q⟩ => by
  unfold strC at eg
  split at eg
  · split at eg
    · have e2 := Option.some.inj eg
      subst e2
      obtain ⟨v, rfl, h⟩ := reps1 r
      cases h
      exact ⟨_, rfl, by assumption, endV.here sb q (.str _)⟩
    · cases eg
  · cases eg
end
end HD

set_option Elab.async false
set_option linter.all false
set_option maxRecDepth 100000
set_option maxHeartbeats 4000000
/-! HDe: what a loop or a comprehension walks; targets; comprehensions. -/
namespace HD
open PySem PySem.Spec PyProof.Rows L2
open RZ (ItzT iZipA pi_zipA)
open RT (ItvT iRevA pi_revA)

/-! ### what is walked -/
/-- fz: the things walked must stay as they are -/
inductive Ri | ok (ds : List D) (fz : Bool) | x (e : D)
abbrev Iv := En → Option Ri
structure WalkD (K : PySem.W.Frag) (J : It) (ds : List D) (Hs1 : Hp) : Prop where
  go : ∀ i H, i < ds.length → Same Hs1 H → J.go i H
  stop : ∀ H, Same Hs1 H → J.stop ds.length H
  yld : ∀ i H Hs x H' (d : D), ds[i]? = some d → Same Hs1 Hs → Same Hs H → J.yld i H x H' → ∃ Hs', Ext Hs H Hs' H' ∧ Rep K Hs' x d
/-- what must stay while it is walked -/
def stay (fz : Bool) (Hs : Hp) : Hp := if fz then Hs else fun _ => none
theorem stay_sub {fz : Bool} {Hs : Hp} : Same (stay fz Hs) Hs := fun b o h => by
  unfold stay at h
  split at h
  · exact h
  · cases h
theorem WalkD.up {K : PySem.W.Frag} {J : It} {ds : List D} {Hs Hs1 : Hp} (w : WalkD K J ds Hs) (s : Same Hs Hs1) : WalkD K J ds Hs1 :=
  ⟨fun i H hi h => w.go i H hi (s.trans h), fun H h => w.stop H (s.trans h), fun i H Hs2 x H' d hd s1 s2 y => w.yld i H Hs2 x H' d hd (s.trans s1) s2 y⟩
def endI (K : PySem.W.Frag) (W : XK) (Hs H : Hp) (R : It → Hp → Prop) : Ri → Prop
  | .ok ds fz => ∀ J Hs1 H1, Ext Hs H Hs1 H1 → WalkD K J ds (stay fz Hs1) → R J H1
  | .x e => endX K W Hs H e
def rdI (K : PySem.W.Frag) (W : WX) (g : Iv) : TI := fun σ H R => ∃ env Hs r, FrE K env Hs σ H ∧ g env = some r ∧ endI K (WE W σ) Hs H R r
abbrev PID (X : Cx) (W : WX) (tg e : Expr) (g : Iv) : Prop := PI X tg e (rdI X.K W g)
section
variable {K : PySem.W.Frag} {Hs1 : Hp} {ds es : List D} {vs ws : List V} {a b : Addr}
theorem walkD_list (h : SqL K Hs1 a vs) (r : Reps K Hs1 vs ds) : WalkD K (Itl K a) ds Hs1 where
  go := fun i H hi s => walk_list.goes i H (by rw [r.length]; exact hi) (s.seq h)
  stop := fun H s => by rw [← r.length]; exact walk_list.stops H (s.seq h)
  yld := fun i H Hs x H' d hd s1 s2 y => by
    have hi : i < vs.length := by rw [r.length]; exact (List.getElem?_eq_some_iff.mp hd).1
    obtain ⟨rfl, e⟩ := walk_list.yields i H x H' hi ((s1.trans s2).seq h) y
    obtain ⟨v, e1, r1⟩ := r.get hd
    rw [e] at e1
    cases e1
    exact ⟨Hs, Ext.refl s2, r1.mono s1⟩
theorem walkD_tup (h : SqT K Hs1 a vs) (r : Reps K Hs1 vs ds) : WalkD K (Itt K a) ds Hs1 where
  go := fun i H hi s => walk_tup.goes i H (by rw [r.length]; exact hi) (same_sqt s h)
  stop := fun H s => by rw [← r.length]; exact walk_tup.stops H (same_sqt s h)
  yld := fun i H Hs x H' d hd s1 s2 y => by
    have hi : i < vs.length := by rw [r.length]; exact (List.getElem?_eq_some_iff.mp hd).1
    obtain ⟨rfl, e⟩ := walk_tup.yields i H x H' hi (same_sqt (s1.trans s2) h) y
    obtain ⟨v, e1, r1⟩ := r.get hd
    rw [e] at e1
    cases e1
    exact ⟨Hs, Ext.refl s2, r1.mono s1⟩
theorem walkD_str {z : Str} : WalkD K (Its z) (z.cps.toList.map fun c => .str ⟨#[c]⟩) Hs1 where
  go := fun i H hi s => by
    rw [List.length_map] at hi
    exact walk_str.goes i H (by simpa using hi) trivial
  stop := fun H s => by
    rw [List.length_map]
    have := (walk_str (z := z)).stops H trivial
    simpa using this
  yld := fun i H Hs x H' d hd s1 s2 y => by
    rw [List.getElem?_map] at hd
    obtain ⟨rfl, c, e, rfl⟩ := y
    have e2 : z.cps.toList[i]? = some c := by rw [Array.getElem?_toList]; exact e
    rw [e2] at hd
    have e3 := Option.some.inj hd
    subst e3
    exact ⟨Hs, Ext.refl s2, .str _⟩
def rgD (lo : Int) (n : Nat) : List D := (List.range n).map fun (i : Nat) => .int (lo + (i : Int))
theorem rgD_get {lo : Int} {n i : Nat} {d : D} (h : (rgD lo n)[i]? = some d) : d = .int (lo + (i : Int)) := by
  unfold rgD at h
  rw [List.getElem?_map] at h
  cases e : (List.range n)[i]? with
  | none => rw [e] at h; cases h
  | some j =>
    rw [e] at h
    have hj : j = i := by
      have := List.getElem?_eq_some_iff.mp e
      obtain ⟨h1, h2⟩ := this
      rw [List.getElem_range] at h2
      exact h2.symm
    subst hj
    exact (Option.some.inj h).symm
theorem rgD_len {lo : Int} {n : Nat} : (rgD lo n).length = n := by unfold rgD; rw [List.length_map, List.length_range]
theorem walkD_range {lo : Int} {n : Nat} : WalkD K (Itr lo n) (rgD lo n) Hs1 where
  go := fun i H hi s => by rw [rgD_len] at hi; exact hi
  stop := fun H s => by rw [rgD_len]; exact Nat.le_refl _
  yld := fun i H Hs x H' d hd s1 s2 y => by
    obtain ⟨rfl, rfl⟩ := y
    rw [rgD_get hd]
    exact ⟨Hs, Ext.refl s2, .int _⟩
/-- pairs, made new at each turn -/
def prD : List D → List D → List D
  | x :: xs, y :: ys => .tup [x, y] :: prD xs ys
  | _, _ => []
def enD : Nat → List D → List D
  | k, x :: xs => .tup [.int k, x] :: enD (k + 1) xs
  | _, [] => []
theorem prD_get : ∀ {xs ys : List D} {i : Nat} {d : D}, (prD xs ys)[i]? = some d → ∃ x y, d = .tup [x, y] ∧ xs[i]? = some x ∧ ys[i]? = some y
  | [], _, _, _, h => by simp [prD] at h
  | _ :: _, [], _, _, h => by simp [prD] at h
  | x :: xs, y :: ys, 0, d, h => by
    have e := Option.some.inj h
    exact ⟨x, y, e.symm, rfl, rfl⟩
  | x :: xs, y :: ys, i + 1, d, h => prD_get (xs := xs) (ys := ys) (i := i) h
theorem prD_len : ∀ {xs ys : List D}, (prD xs ys).length = min xs.length ys.length
  | [], _ => by simp [prD]
  | _ :: _, [] => by simp [prD]
  | x :: xs, y :: ys => by
    show (prD xs ys).length + 1 = min (xs.length + 1) (ys.length + 1)
    rw [prD_len]
    omega
theorem enD_get : ∀ {xs : List D} {k i : Nat} {d : D}, (enD k xs)[i]? = some d → ∃ x, d = .tup [.int ((k + i : Nat) : Int), x] ∧ xs[i]? = some x
  | [], _, _, _, h => by simp [enD] at h
  | x :: xs, k, 0, d, h => by
    have e := Option.some.inj h
    exact ⟨x, e.symm, rfl⟩
  | x :: xs, k, i + 1, d, h => by
    obtain ⟨y, e1, e2⟩ := enD_get (xs := xs) (k := k + 1) (i := i) h
    exact ⟨y, by rw [e1]; congr 3; omega, e2⟩
theorem enD_len : ∀ {xs : List D} {k : Nat}, (enD k xs).length = xs.length
  | [], _ => rfl
  | x :: xs, k => congrArg (· + 1) (enD_len (xs := xs) (k := k + 1))
theorem yld_pair {Hs H H' : Hp} {T : Addr} {x y : V} {d e : D} (s : Same Hs H) (hn : H T = none) (eh : H' = upd H T (.tup [x, y])) (r1 : Rep K Hs x d) (r2 : Rep K Hs y e) : ∃ Hs', Ext Hs H Hs' H' ∧ Rep K Hs' (.ref T) (.tup [d, e]) := by
  subst eh
  have sm : Same Hs (upd Hs T (.tup [x, y])) := same_upd (s.free hn)
  exact ⟨upd Hs T (.tup [x, y]), (Ext.refl s).laid hn, .tup (.inl upd_same) (.cons (r1.mono sm) (.cons (r2.mono sm) .nil))⟩
theorem walkD_enum (h : SqL K Hs1 a vs) (r : Reps K Hs1 vs ds) : WalkD K (Ite K a) (enD 0 ds) Hs1 where
  go := fun i H hi s => walk_enum.goes i H (by rw [r.length, ← enD_len (k := 0)]; exact hi) (s.seq h)
  stop := fun H s => by rw [enD_len, ← r.length]; exact walk_enum.stops H (s.seq h)
  yld := fun i H Hs x H' d hd s1 s2 y => by
    have hi : i < vs.length := by rw [r.length, ← enD_len (k := 0)]; exact (List.getElem?_eq_some_iff.mp hd).1
    obtain ⟨T, x1, y1, rfl, hn, eh, e1, e2⟩ := walk_enum.yields i H x H' hi ((s1.trans s2).seq h) y
    obtain ⟨z, rfl, ez⟩ := enD_get hd
    obtain ⟨v, e3, r3⟩ := r.get ez
    dsimp only at e1 e2
    rw [e2] at e3
    cases e3
    have e4 := Option.some.inj e1
    subst e4
    rw [Nat.zero_add]
    exact yld_pair s2 hn eh (.int _) (r3.mono s1)
theorem walkD_zip (h : SqL K Hs1 a vs) (r : Reps K Hs1 vs ds) (h2 : SqL K Hs1 b ws) (r2 : Reps K Hs1 ws es) : WalkD K (Itz K a b) (prD ds es) Hs1 where
  go := fun i H hi s => (walk_zip rfl).goes i H (by rw [r.length, r2.length, ← prD_len]; exact hi) ⟨s.seq h, s.seq h2⟩
  stop := fun H s => by rw [prD_len, ← r.length, ← r2.length]; exact (walk_zip rfl).stops H ⟨s.seq h, s.seq h2⟩
  yld := fun i H Hs x H' d hd s1 s2 y => by
    have hi : i < min vs.length ws.length := by rw [r.length, r2.length, ← prD_len]; exact (List.getElem?_eq_some_iff.mp hd).1
    obtain ⟨T, x1, y1, rfl, hn, eh, e1, e2⟩ := (walk_zip rfl).yields i H x H' hi ⟨(s1.trans s2).seq h, (s1.trans s2).seq h2⟩ y
    obtain ⟨z, z2, rfl, ez, ez2⟩ := prD_get hd
    obtain ⟨v, e3, r3⟩ := r.get ez
    obtain ⟨v2, e4, r4⟩ := r2.get ez2
    dsimp only at e1 e2
    rw [e1] at e3
    rw [e2] at e4
    cases e3
    cases e4
    exact yld_pair s2 hn eh (r3.mono s1) (r4.mono s1)
theorem walkD_zipT (h : SqT K Hs1 a vs) (r : Reps K Hs1 vs ds) (h2 : SqT K Hs1 b ws) (r2 : Reps K Hs1 ws es) : WalkD K (ItzT K a b) (prD ds es) Hs1 where
  go := fun i H hi s => by
    rw [prD_len, ← r.length, ← r2.length] at hi
    exact ⟨vs, ws, vs[i], ws[i], same_sqt s h, same_sqt s h2, by simp, by simp⟩
  stop := fun H s => by
    rw [prD_len, ← r.length, ← r2.length]
    exact ⟨vs, ws, same_sqt s h, same_sqt s h2, by omega⟩
  yld := fun i H Hs x H' d hd s1 s2 y => by
    obtain ⟨T, x1, y1, rfl, hn, eh, e1, e2⟩ := y
    obtain ⟨z, z2, rfl, ez, ez2⟩ := prD_get hd
    obtain ⟨v, e3, r3⟩ := r.get ez
    obtain ⟨v2, e4, r4⟩ := r2.get ez2
    rw [e1 vs (same_sqt (s1.trans s2) h)] at e3
    rw [e2 ws (same_sqt (s1.trans s2) h2)] at e4
    cases e3
    cases e4
    exact yld_pair s2 hn eh (r3.mono s1) (r4.mono s1)
theorem rev_get {α : Type} {l : List α} {i : Nat} {d : α} (h : l.reverse[i]? = some d) : i < l.length ∧ l[l.length - 1 - i]? = some d := by
  have hi : i < l.length := by
    have := (List.getElem?_eq_some_iff.mp h).1
    simpa using this
  rw [List.getElem?_reverse hi] at h
  exact ⟨hi, h⟩
theorem walkD_rev (h : SqL K Hs1 a vs) (r : Reps K Hs1 vs ds) : WalkD K (Itv K a vs.length) ds.reverse Hs1 where
  go := fun i H hi s => walk_rev.goes i H (by rw [r.length, ← List.length_reverse (as := ds)]; exact hi) (s.seq h)
  stop := fun H s => by rw [List.length_reverse, ← r.length]; exact walk_rev.stops H (s.seq h)
  yld := fun i H Hs x H' d hd s1 s2 y => by
    obtain ⟨hi, e⟩ := rev_get hd
    obtain ⟨rfl, e2⟩ := walk_rev.yields i H x H' (by rw [r.length]; exact hi) ((s1.trans s2).seq h) y
    obtain ⟨v, e3, r3⟩ := r.get e
    rw [← r.length, e2] at e3
    cases e3
    exact ⟨Hs, Ext.refl s2, r3.mono s1⟩
theorem walkD_revT (h : SqT K Hs1 a vs) (r : Reps K Hs1 vs ds) : WalkD K (ItvT K a vs.length) ds.reverse Hs1 where
  go := fun i H hi s => by
    rw [List.length_reverse, ← r.length] at hi
    exact ⟨hi, vs, vs[vs.length - 1 - i], same_sqt s h, by simp [show vs.length - 1 - i < vs.length by omega]⟩
  stop := fun H s => by rw [List.length_reverse, ← r.length]; exact Nat.le_refl _
  yld := fun i H Hs x H' d hd s1 s2 y => by
    obtain ⟨hi, e⟩ := rev_get hd
    obtain ⟨rfl, e2⟩ := y
    obtain ⟨v, e3, r3⟩ := r.get e
    rw [← r.length, e2 vs (same_sqt (s1.trans s2) h)] at e3
    cases e3
    exact ⟨Hs, Ext.refl s2, r3.mono s1⟩
end
/-! the walked expressions -/
def seqD : D → Option Ri
  | .tup l => some (.ok l true)
  | .lst l => some (.ok l true)
  | .scr l => some (.ok l true)
  | .str z => some (.ok (z.cps.toList.map fun c => .str ⟨#[c]⟩) false)
  | _ => none
def bindI (r : Option Rs) (k : D → Option Ri) : Option Ri :=
  match r with
  | none => none
  | some (.x e) => some (.x e)
  | some (.v d) => k d
  | some (.n d) => k d
def bindLI (r : Option Rl) (k : List D → Option Ri) : Option Ri :=
  match r with
  | none => none
  | some (.x e) => some (.x e)
  | some (.ok ds) => k ds
/-- a list, a tuple, a text -/
def iSeq (f : Ev) : Iv := fun env => bindI (f env) seqD
def rgOk (i : Int) : Bool := decide (-(2 ^ 62) ≤ i ∧ i < 2 ^ 62)
def iRange1 (f : Ev) : Iv := fun env => bindLI (evs [f] env) fun ds => match ds with
  | [.int j] => if rgOk j then some (.ok (rgD 0 j.toNat) false) else none
  | _ => none
def iRange2 (f g : Ev) : Iv := fun env => bindLI (evs [f, g] env) fun ds => match ds with
  | [.int i, .int j] => if rgOk i && rgOk j then some (.ok (rgD i (j - i).toNat) false) else none
  | _ => none
def rgD3 (lo c : Int) (n : Nat) : List D := (List.range n).map fun (i : Nat) => .int (lo + (i : Int) * c)
def iRange3 (f g h : Ev) : Iv := fun env => bindLI (evs [f, g, h] env) fun ds => match ds with
  | [.int i, .int j, .int c] => if rgOk i && rgOk j && decide (0 < c ∧ c < 2 ^ 62) then some (.ok (rgD3 i c ((j - i + c - 1) / c).toNat) false) else none
  | _ => none
def iEn (fs : List Ev) : Iv := fun env => bindLI (evs fs env) fun ds => match ds with
  | [.lst l] => some (.ok (enD 0 l) true)
  | [.scr l] => some (.ok (enD 0 l) true)
  | _ => none
def iZp (fs : List Ev) : Iv := fun env => bindLI (evs fs env) fun ds => match ds with
  | [.lst l, .lst m] => some (.ok (prD l m) true)
  | [.tup l, .tup m] => some (.ok (prD l m) true)
  | _ => none
def iRv (f : Ev) : Iv := fun env => bindI (f env) fun d => match d with
  | .tup l => some (.ok l.reverse true)
  | .lst l => some (.ok l.reverse true)
  | _ => none
section
variable {X : Cx} {W : WX} {a b tg : Expr} {es : List Expr} {fs : List Ev} {f f' : Ev} {pos p tpos : Pos} {K : PySem.W.Frag} {env : En} {Hs H : Hp} {σ : Sg} {r : Ri} {R : It → Hp → Prop} {Q1 : VK} {Q2 : List V → Hp → Prop}
theorem endI.ext {W : XK} {Hs' H' : Hp} (a : Ext Hs H Hs' H') (h : endI K W Hs H R r) : endI K W Hs' H' R r := by
  cases r with
  | ok ds fz => exact fun J Hs1 H1 b w => h J Hs1 H1 (a.trans b) w
  | x e => exact fun c dd Hs2 H2 b z => h c dd Hs2 H2 (a.trans b) z
theorem ri_bind {k : D → Option Ri} (F : FrE K env Hs σ H) (e : bindI (f env) k = some r) (q : endI K (WE W σ) Hs H R r)
    (hk : ∀ v d Hs1 H1, Ext Hs H Hs1 H1 → FrE K env Hs1 σ H1 → Rep K Hs1 v d → k d = some r → endI K (WE W σ) Hs1 H1 R r → Q1 v H1) : rdE K W f σ H Q1 := by
  cases ef : f env with
  | none => rw [ef] at e; cases e
  | some u =>
    rw [ef] at e
    cases u with
    | x e' =>
      have e2 : r = .x e' := (Option.some.inj e).symm
      subst e2
      exact ⟨env, Hs, _, F, ef, q⟩
    | v d => exact ⟨env, Hs, _, F, ef, fun v Hs1 H1 a rp => hk v d Hs1 H1 a (F.ext a) rp e (q.ext a)⟩
    | n d =>
      refine ⟨env, Hs, _, F, ef, fun v Hs1 H1 a rp => ?_⟩
      obtain ⟨Hs2, a2, rp2⟩ := rp.share a
      exact hk v d Hs2 H1 a2 (F.ext a2) rp2 e (q.ext a2)
theorem ri_bindL {k : List D → Option Ri} (F : FrE K env Hs σ H) (e : bindLI (evs fs env) k = some r) (q : endI K (WE W σ) Hs H R r)
    (hk : ∀ vs ds Hs1 H1, Ext Hs H Hs1 H1 → FrE K env Hs1 σ H1 → Reps K Hs1 vs ds → k ds = some r → endI K (WE W σ) Hs1 H1 R r → Q2 vs H1) : rdA K W fs σ H Q2 := by
  cases ef : evs fs env with
  | none => rw [ef] at e; cases e
  | some u =>
    rw [ef] at e
    refine ⟨env, Hs, u, F, ef, ?_⟩
    cases u with
    | x e' =>
      have e2 : r = .x e' := (Option.some.inj e).symm
      subst e2
      exact q
    | ok ds => exact fun vs Hs1 H1 a rp => hk vs ds Hs1 H1 a (F.ext a) rp e (q.ext a)
theorem endI.done {W : XK} {J : It} {ds : List D} (s : Same Hs H) (q : endI K W Hs H R (.ok ds true)) (w : WalkD K J ds Hs) : R J H := q J Hs H (Ext.refl s) w
theorem endI.doneF {W : XK} {J : It} {ds : List D} (s : Same Hs H) (q : endI K W Hs H R (.ok ds false)) (w : WalkD K J ds fun _ => none) : R J H := q J Hs H (Ext.refl s) w
/-- a list, a tuple, a text -/
def iAny (K : PySem.W.Frag) (tl : TE) : TI := fun σ H R => tl σ H fun x H1 => (∃ a, x = .ref a ∧ (∃ xs, SqL K H1 a xs) ∧ R (Itl K a) H1) ∨ (∃ a, x = .ref a ∧ (∃ xs, SqT K H1 a xs) ∧ R (Itt K a) H1) ∨ ∃ z, x = .str z ∧ R (Its z) H1
theorem pi_any {l : Expr} {tl : TE} (hl : PE X l tl) : PI X tg l (iAny X.K tl) := ⟨fun pins s σ H R I h => by
  refine thn (hl.run pins s σ H _ I h) ?_
  rintro v s1 ⟨x, H1, I1, r1, ⟨a, rfl, ⟨xs, hq⟩, q⟩ | ⟨a, rfl, ⟨xs, hq⟩, q⟩ | ⟨z, rfl, q⟩⟩
  · cases r1
    exact (I1.list hq).elim fun _ z => wpAny_pyIter_list z.2.1.isList (pi_one (tk := s1.toks) I1 _ (turn_list a _) ⟨_, Heap.get?_push_size _ rfl, rfl, rfl⟩ q)
  · cases r1
    exact (I1.tuple hq).elim fun its z => wpAny_pyIter_tuple (items := its.toArray) z.2.1 (pi_one (tk := s1.toks) I1 _ (turn_tuple a _) ⟨_, Heap.get?_push_size _ rfl, rfl, rfl⟩ q)
  · obtain ⟨t, rfl⟩ := r1
    cases ha : z.cps.all (· < 128)
    · exact wpAny_pyIter_wide ha (pi_one (tk := s1.toks) I1 _ (turn_str _ z t "str_iterator" (.inr rfl)) ⟨_, Heap.get?_push_size _ rfl, rfl, rfl⟩ q)
    · exact wpAny_pyIter_ascii ha (pi_one (tk := s1.toks) I1 _ (turn_str _ z t "str_ascii_iterator" (.inl rfl)) ⟨_, Heap.get?_push_size _ rfl, rfl, rfl⟩ q)⟩
theorem pid_seq (ha : PD X W a f) : PID X W tg a (iSeq f) := PI.weak (pi_any ha) fun σ H R ⟨env, Hs, r, F, e, q⟩ => ri_bind F e q fun v d Hs1 H1 a1 F1 r1 e2 q1 => by
  unfold seqD at e2
  split at e2
  · have e3 := Option.some.inj e2
    subst e3
    cases r1 with
    | tup h1 r1 => exact .inr (.inl ⟨_, rfl, ⟨_, same_sqt F1.sub h1.t⟩, endI.done F1.sub q1 (walkD_tup h1 r1)⟩)
  · have e3 := Option.some.inj e2
    subst e3
    cases r1 with
    | lst h1 r1 => exact .inl ⟨_, rfl, ⟨_, SqL.of (F1.sub _ _ h1)⟩, endI.done F1.sub q1 (walkD_list (SqL.of h1) r1)⟩
  · have e3 := Option.some.inj e2
    subst e3
    cases r1 with
    | scr h1 r1 => exact .inl ⟨_, rfl, ⟨_, F1.sub.seq h1⟩, endI.done F1.sub q1 (walkD_list h1 r1)⟩
  · have e3 := Option.some.inj e2
    subst e3
    cases r1
    exact .inr (.inr ⟨_, rfl, endI.doneF F1.sub q1 walkD_str⟩)
  · cases e2
theorem rgOk_ok {i : Int} (h : rgOk i = true) : -(2 ^ 62) ≤ i ∧ i < 2 ^ 62 := of_decide_eq_true h
theorem pid_range1 (hg : Gl X "range") (hm : X.mg "range" = none) (ha : PAD X W [a] [f]) (hs : starEach [a] X.env = [(false, eval a X.env)] := by rfl) : PID X W tg (.Call (.Name "range" p) [a] [] pos) (iRange1 f) :=
  PI.weak (pi_range1 hg hm ha hs) fun σ H R ⟨env, Hs, r, F, e, q⟩ => ri_bindL F e q fun vs ds Hs1 H1 a1 F1 r1 e1 q1 => by
    split at e1
    · split at e1
      · rename_i hj
        have e3 := Option.some.inj e1
        subst e3
        obtain ⟨v, rfl, h⟩ := reps1 r1
        cases h
        exact ⟨_, rfl, (rgOk_ok hj).1, (rgOk_ok hj).2, endI.doneF F1.sub q1 walkD_range⟩
      · cases e1
    · cases e1
theorem pid_range2 (hg : Gl X "range") (hm : X.mg "range" = none) (ha : PAD X W [a, b] [f, f']) (hs : starEach [a, b] X.env = [(false, eval a X.env), (false, eval b X.env)] := by rfl) (hs2 : starEach [b] X.env = [(false, eval b X.env)] := by rfl) :
    PID X W tg (.Call (.Name "range" p) [a, b] [] pos) (iRange2 f f') :=
  PI.weak (pi_range2 hg hm ha hs hs2) fun σ H R ⟨env, Hs, r, F, e, q⟩ => ri_bindL F e q fun vs ds Hs1 H1 a1 F1 r1 e1 q1 => by
    split at e1
    · split at e1
      · rename_i hj
        rw [Bool.and_eq_true] at hj
        have e3 := Option.some.inj e1
        subst e3
        obtain ⟨v, w, rfl, h, h2⟩ := reps2 r1
        cases h
        cases h2
        exact ⟨_, _, rfl, ⟨(rgOk_ok hj.1).1, (rgOk_ok hj.1).2, (rgOk_ok hj.2).1, (rgOk_ok hj.2).2⟩, endI.doneF F1.sub q1 walkD_range⟩
      · cases e1
    · cases e1
theorem pid_enum {elts : List Expr} {kk : Nat} (hg : Gl X "enumerate") (hm : X.mg "enumerate" = none) (ha : PAD X W [a] [f]) (hs : starEach [a] X.env = [(false, eval a X.env)] := by rfl) : PID X W (.Tuple elts kk tpos) (.Call (.Name "enumerate" p) [a] [] pos) (iEn [f]) :=
  PI.weak (pi_enum hg hm ha hs) fun σ H R ⟨env, Hs, r, F, e, q⟩ => ri_bindL F e q fun vs ds Hs1 H1 a1 F1 r1 e1 q1 => by
    split at e1
    · have e3 := Option.some.inj e1
      subst e3
      obtain ⟨v, rfl, h⟩ := reps1 r1
      cases h with
      | lst h r => exact ⟨_, _, rfl, SqL.of (F1.sub _ _ h), endI.done F1.sub q1 (walkD_enum (SqL.of h) r)⟩
    · have e3 := Option.some.inj e1
      subst e3
      obtain ⟨v, rfl, h⟩ := reps1 r1
      cases h with
      | scr h r => exact ⟨_, _, rfl, F1.sub.seq h, endI.done F1.sub q1 (walkD_enum h r)⟩
    · cases e1
theorem pid_zip {elts : List Expr} {kk : Nat} (hg : Gl X "zip") (hm : X.mg "zip" = none) (ha : PAD X W [a, b] fs)
    (hs : starEach [a, b] X.env = (false, eval a X.env) :: starEach [b] X.env := by rfl) (hpl : (backTo pos (starEach [b] X.env)).any (·.1) = false := by rfl) : PID X W (.Tuple elts kk tpos) (.Call (.Name "zip" p) [a, b] [] pos) (iZp fs) :=
  PI.weak (pi_zipA hg hm ha hs hpl) fun σ H R ⟨env, Hs, r, F, e, q⟩ => ri_bindL F e q fun vs ds Hs1 H1 a1 F1 r1 e1 q1 => by
    split at e1
    · have e3 := Option.some.inj e1
      subst e3
      obtain ⟨v, w, rfl, h, h2⟩ := reps2 r1
      cases h with
      | lst h r =>
        cases h2 with
        | lst h2 r2 => exact ⟨_, _, _, _, rfl, .inl ⟨SqL.of (F1.sub _ _ h), SqL.of (F1.sub _ _ h2), endI.done F1.sub q1 (walkD_zip (SqL.of h) r (SqL.of h2) r2)⟩⟩
    · have e3 := Option.some.inj e1
      subst e3
      obtain ⟨v, w, rfl, h, h2⟩ := reps2 r1
      cases h with
      | tup h r =>
        cases h2 with
        | tup h2 r2 => exact ⟨_, _, _, _, rfl, .inr ⟨same_sqt F1.sub h.t, same_sqt F1.sub h2.t, endI.done F1.sub q1 (walkD_zipT h r h2 r2)⟩⟩
    · cases e1
theorem pid_rev (hg : Gl X "reversed") (hm : X.mg "reversed" = none) (ha : PD X W a f) (hs : starEach [a] X.env = (false, eval a X.env) :: starEach [] X.env := by rfl) : PID X W tg (.Call (.Name "reversed" p) [a] [] pos) (iRv f) :=
  PI.weak (pi_revA hg hm ha hs) fun σ H R ⟨env, Hs, r, F, e, q⟩ => ri_bind F e q fun v d Hs1 H1 a1 F1 r1 e1 q1 => by
    split at e1
    · have e3 := Option.some.inj e1
      subst e3
      cases r1 with
      | tup h r => exact ⟨_, _, rfl, .inr ⟨same_sqt F1.sub h, endI.done F1.sub q1 (walkD_revT h r)⟩⟩
    · have e3 := Option.some.inj e1
      subst e3
      cases r1 with
      | lst h r => exact ⟨_, _, rfl, .inl ⟨SqL.of (F1.sub _ _ h), endI.done F1.sub q1 (walkD_rev (SqL.of h) r)⟩⟩
    · cases e1
end

/-! ### targets -/
inductive Tg | nm (i : Nat) | tu (is : List Nat)
def setAll : List Nat → List D → En → Option En
  | [], [], env => some env
  | i :: is, d :: ds, env => setAll is ds (env.set i (.sh d))
  | _, _, _ => none
def Tg.set : Tg → D → En → Option En
  | .nm i, d, env => some (env.set i (.sh d))
  | .tu is, .tup ds, env => setAll is ds env
  | _, _, _ => none
def Tg.ix : Tg → List Nat
  | .nm i => [i]
  | .tu is => is
def gsOf : List Nat → TGs
  | [] => gNil
  | i :: is => gCons (gName i) (gsOf is)
def gOf (K : PySem.W.Frag) : Tg → TG
  | .nm i => gName i
  | .tu is => gTup K is.length (gsOf is)
theorem getv_set {env : En} {i j : Nat} {s : Slot} {d : D} (h : getv (env.set i s) j = some d) : (j = i ∧ i < env.length ∧ s.val = some d) ∨ (j ≠ i ∧ getv env j = some d) := by
  unfold getv at h ⊢
  by_cases e : i = j
  · subst e
    by_cases hi : i < env.length
    · rw [List.getElem?_set_self hi] at h
      exact .inl ⟨rfl, hi, h⟩
    · rw [List.getElem?_eq_none (by simpa using hi)] at h
      cases h
  · rw [List.getElem?_set_ne e] at h
    exact .inr ⟨fun z => e z.symm, h⟩
section
variable {K : PySem.W.Frag} {env env' : En} {Hs H : Hp} {σ : Sg} {v : V} {d : D}
theorem FrE.set (F : FrE K env Hs σ H) (r : Rep K Hs v d) (i : Nat) : FrE K (env.set i (.sh d)) Hs (σ.set i (some v)) H where
  sub := F.sub
  len := by rw [List.length_set, List.length_set]; exact F.len
  val := fun j e h => by
    rcases getv_set h with ⟨rfl, hi, e2⟩ | ⟨hn, h2⟩
    · have e3 := Option.some.inj e2
      subst e3
      exact ⟨v, List.getElem?_set_self (by rw [← F.len]; exact hi), r⟩
    · obtain ⟨w, h3, h4⟩ := F.val j e h2
      exact ⟨w, by rw [List.getElem?_set_ne (fun z => hn z.symm)]; exact h3, h4⟩
theorem gs_frE : ∀ (is : List Nat) (ds : List D) (vs : List V) (env env' : En) (σ : Sg) (Q : Sg → Hp → Prop), FrE K env Hs σ H → Reps K Hs vs ds → setAll is ds env = some env' →
    (∀ σ', FrE K env' Hs σ' H → (∀ j, j ∉ is → σ'[j]? = σ[j]?) → Q σ' H) → gsOf is vs σ H Q
  | [], ds, vs, env, env', σ, Q, F, r, e, k => by
    cases ds with
    | nil =>
      cases r
      have e2 := Option.some.inj e
      subst e2
      exact ⟨rfl, k σ F fun _ _ => rfl⟩
    | cons d ds => cases e
  | i :: is, ds, vs, env, env', σ, Q, F, r, e, k => by
    cases ds with
    | nil => cases e
    | cons d ds =>
      cases r with
      | cons h r =>
        refine ⟨_, _, rfl, ?_⟩
        refine gs_frE is ds _ _ env' _ Q (F.set h i) r e fun σ' F' hj => k σ' F' fun j hn => ?_
        have h1 : j ∉ is := fun z => hn (List.mem_cons_of_mem _ z)
        have h2 : i ≠ j := fun z => hn (by rw [z]; exact List.mem_cons_self)
        rw [hj j h1, List.getElem?_set_ne h2]
theorem setAll_len : ∀ (is : List Nat) (ds : List D) (env env' : En), setAll is ds env = some env' → is.length = ds.length
  | [], [], _, _, _ => rfl
  | [], _ :: _, _, _, h => by cases h
  | _ :: _, [], _, _, h => by cases h
  | i :: is, d :: ds, env, env', h => congrArg (· + 1) (setAll_len is ds _ env' h)
theorem setAll_len2 : ∀ (is : List Nat) (ds : List D) (env env' : En), setAll is ds env = some env' → env'.length = env.length
  | [], [], _, _, h => by rw [← Option.some.inj h]
  | [], _ :: _, _, _, h => by cases h
  | _ :: _, [], _, _, h => by cases h
  | i :: is, d :: ds, env, env', h => by
    rw [setAll_len2 is ds _ env' h, List.length_set]
theorem Tg.set_len {tg : Tg} (e : tg.set d env = some env') : env'.length = env.length := by
  unfold Tg.set at e
  split at e
  · rw [← Option.some.inj e, List.length_set]
  · exact setAll_len2 _ _ _ _ e
  · cases e
theorem tg_frE {tg : Tg} {Q : Sg → Hp → Prop} (F : FrE K env Hs σ H) (r : Rep K Hs v d) (e : tg.set d env = some env') (k : ∀ σ', FrE K env' Hs σ' H → (∀ j, j ∉ tg.ix → σ'[j]? = σ[j]?) → Q σ' H) : gOf K tg v σ H Q := by
  unfold Tg.set at e
  split at e
  · have e2 := Option.some.inj e
    subst e2
    exact k _ (F.set r _) fun j hn => List.getElem?_set_ne (fun z => hn (by rw [z]; exact List.mem_cons_self))
  · cases r with
    | tup h r => exact ⟨_, _, rfl, same_sqt F.sub h, by rw [r.length]; exact (setAll_len _ _ _ _ e).symm, gs_frE _ _ _ _ _ _ _ F r e k⟩
  · cases e
end

/-! ### comprehensions -/
def wipeE (env : En) : List Nat → En
  | [] => env
  | v :: vs => (wipeE env vs).set v .un
def tYes' : Tv := fun _ => some (.ok true)
def lcGo (tg : Tg) (c : Tv) (elt : Ev) (env : En) : List D → Option (List D)
  | [] => some []
  | d :: r => match tg.set d env with
    | none => none
    | some env1 => match c env1 with
      | some (.ok true) => match elt env1 with
        | some (.v y) => (lcGo tg c elt env r).map (y :: ·)
        | some (.n y) => (lcGo tg c elt env r).map (y :: ·)
        | _ => none
      | some (.ok false) => lcGo tg c elt env r
      | _ => none
def cLc (g : Iv) (vs : List Nat) (tg : Tg) (c : Tv) (elt : Ev) : Ev := fun env =>
  match g env with
  | some (.ok ds _) => if ds.length ≤ sizeLine then (lcGo tg c elt (wipeE env vs) ds).map fun l => .n (.lst l) else none
  | some (.x e) => some (.x e)
  | none => none
/-- nothing is let out -/
abbrev wN : WX := fun _ _ _ _ => False
theorem lcGo_len {tg : Tg} {c : Tv} {elt : Ev} {env : En} : ∀ {l out : List D}, lcGo tg c elt env l = some out → out.length ≤ l.length
  | [], out, h => by rw [← Option.some.inj h]; exact Nat.le_refl _
  | d :: r, out, h => by
    unfold lcGo at h
    split at h
    · cases h
    · split at h
      · split at h
        · cases e : lcGo tg c elt env r with
          | none => rw [e] at h; cases h
          | some o => rw [e] at h; rw [← Option.some.inj h]; exact Nat.succ_le_succ (lcGo_len e)
        · cases e : lcGo tg c elt env r with
          | none => rw [e] at h; cases h
          | some o => rw [e] at h; rw [← Option.some.inj h]; exact Nat.succ_le_succ (lcGo_len e)
        · cases h
      · exact Nat.le_succ_of_le (lcGo_len h)
      · cases h
section
variable {K : PySem.W.Frag} {env env' : En} {Hs H : Hp} {σ : Sg} {v : V} {d : D}
theorem FrE.wipe (F : FrE K env Hs σ H) : ∀ vs : List Nat, FrE K (wipeE env vs) Hs (L2.wipe σ vs) H
  | [] => F
  | v :: vs => by
    have G := FrE.wipe F vs
    refine ⟨G.sub, by unfold wipeE L2.wipe; rw [List.length_set, List.length_set]; exact G.len, fun j e h => ?_⟩
    unfold wipeE at h
    rcases getv_set h with ⟨rfl, hi, e2⟩ | ⟨hn, h2⟩
    · cases e2
    · obtain ⟨w, h3, h4⟩ := G.val j e h2
      refine ⟨w, ?_, h4⟩
      unfold L2.wipe
      rw [List.getElem?_set_ne (fun z => hn z.symm)]
      exact h3
theorem wipe_in {σ : Sg} {j : Nat} : ∀ {vs : List Nat}, j ∈ vs → (L2.wipe σ vs)[j]? = if j < σ.length then some none else none
  | v :: vs, h => by
    unfold L2.wipe
    by_cases e : v = j
    · subst e
      by_cases hl : v < (L2.wipe σ vs).length
      · rw [List.getElem?_set_self hl, if_pos (by rw [L2.wipe_length] at hl; exact hl)]
      · rw [List.getElem?_eq_none (by simpa using hl), if_neg (by rw [L2.wipe_length] at hl; exact hl)]
    · rw [List.getElem?_set_ne e]
      rcases List.mem_cons.mp h with z | z
      · exact absurd z.symm e
      · exact wipe_in z
theorem wipe_eq {σ σ2 : Sg} {vs : List Nat} {tg : Tg} (hl : σ2.length = σ.length) (hs : ∀ j ∈ tg.ix, j ∈ vs) (h : ∀ j, j ∉ tg.ix → σ2[j]? = (L2.wipe σ vs)[j]?) : L2.wipe σ2 vs = L2.wipe σ vs := by
  refine List.ext_getElem? fun j => ?_
  by_cases hj : j ∈ vs
  · rw [wipe_in hj, wipe_in hj, hl]
  · rw [L2.wipe_out hj, h j (fun z => hj (hs j z))]
end
section
variable {X : Cx} {W : WX} {elt tg iter : Expr} {f : Ev} {c : Tv} {g : Iv} {pos : Pos} {T : Tg} {ifs : List Expr} {scope : Scope} {own : List (Str × Nat)}
theorem pts_yes' {X : Cx} : PTs X [] (rdT X.K wN tYes') := ⟨fun pins s σ H Q I ⟨env, Hs, r, F, e, q⟩ => by
  have e2 := Option.some.inj e
  subst e2
  exact wpAny_tests_nil ⟨H, I, q Hs H (Ext.refl F.sub)⟩⟩
theorem pts_d {X : Cx} {t : Expr} (h : PTD X wN t c) : PTs X [t] (rdT X.K wN c) := pts_one h
theorem lc_red {K : PySem.W.Frag} {σ : Sg} {H : Hp} {Q : VK} {env : En} {Hs : Hp} {r : Rs} {vs : List Nat} (F : FrE K env Hs σ H) (e : cLc g vs T c f env = some r) (q : endE K (WE W σ) Hs H Q r) (hv : ∀ j ∈ T.ix, j ∈ vs) :
    tLc (rdI K W g) (gOf K T) (rdT K wN c) (rdE K wN f) vs σ H Q := by
  unfold cLc at e
  cases eg : g env with
  | none => rw [eg] at e; cases e
  | some u =>
    rw [eg] at e
    refine ⟨env, Hs, u, F, eg, ?_⟩
    cases u with
    | x e' =>
      have e2 : r = .x e' := (Option.some.inj e).symm
      subst e2
      exact q
    | ok ds fz =>
      dsimp only at e
      split at e
      case isFalse => cases e
      case isTrue hsz =>
        cases el : lcGo T c f (wipeE env vs) ds with
        | none => rw [el] at e; cases e
        | some total =>
          rw [el] at e
          have e2 := Option.some.inj e
          subst e2
          have htot := lcGo_len el
          intro J Hs1 H1 a1 w0 L hL
          have w := w0.up stay_sub
          have aL : Ext Hs H Hs1 (upd H1 L (.lst [])) := a1.laidN hL
          have nL : Hs1 L = none := a1.sub.free hL
          refine ⟨fun i m H2 => m = ds.length - i ∧ i ≤ ds.length ∧ ∃ Hs2 acc done out, Ext Hs1 H1 Hs2 H2 ∧ Hs2 L = none ∧ H2 L = some (.lst acc) ∧ Reps K Hs2 acc done ∧ lcGo T c f (wipeE env vs) (ds.drop i) = some out ∧ done ++ out = total,
            ⟨ds.length, rfl, Nat.zero_le _, Hs1, [], [], total, (Ext.refl a1.sub).laidN hL, nL, upd_same, .nil, el, rfl⟩, ?_⟩
          rintro i m H2 ⟨rfl, hi, Hs2, acc, done, out, a2, n2, h2, r2, e2, e3⟩
          have nH1 : H1 L = none := hL
          by_cases hlt : i < ds.length
          · right
            refine ⟨w.go i H2 hlt (a2.s.trans a2.sub), fun H3 => i + 1 ≤ ds.length ∧ ∃ Hs2 acc done out, Ext Hs1 H1 Hs2 H3 ∧ Hs2 L = none ∧ H3 L = some (.lst acc) ∧ Reps K Hs2 acc done ∧ lcGo T c f (wipeE env vs) (ds.drop (i + 1)) = some out ∧ done ++ out = total, fun H3 ⟨z1, z2⟩ => ⟨ds.length - (i + 1), by omega, rfl, z1, z2⟩, fun x H3 y => ?_⟩
            have hd : ds[i]? = some ds[i] := List.getElem?_eq_getElem hlt
            have hdrop : ds.drop i = ds[i] :: ds.drop (i + 1) := List.drop_eq_getElem_cons hlt
            obtain ⟨Hs3, a3, r3⟩ := w.yld i H2 Hs2 x H3 _ hd a2.s a2.sub y
            have n3 : Hs3 L = none := a3.new L n2 (by rw [h2]; simp)
            have h3 : H3 L = some (.lst acc) := a3.h _ _ h2
            have F3 : FrE K (wipeE env vs) Hs3 (L2.wipe σ vs) H3 := ((F.ext a1).ext (a2.trans a3)).wipe vs
            rw [hdrop] at e2
            unfold lcGo at e2
            cases et : T.set ds[i] (wipeE env vs) with
            | none => rw [et] at e2; cases e2
            | some env1 =>
              rw [et] at e2
              dsimp only at e2
              refine tg_frE F3 r3 et fun σ2 F4 hj => ⟨wipe_eq (by rw [← F4.len, Tg.set_len et, F3.len, L2.wipe_length]) hv hj, ?_⟩
              cases ec : c env1 with
              | none => rw [ec] at e2; cases e2
              | some rc =>
                rw [ec] at e2
                cases rc with
                | x e' => cases e2
                | ok b =>
                  refine ⟨env1, Hs3, _, F4, ec, fun Hs5 H5 a5 => ?_⟩
                  cases b with
                  | false =>
                    dsimp only at e2 ⊢
                    rw [if_neg Bool.false_ne_true]
                    exact ⟨hlt, Hs5, acc, done, out, (a2.trans a3).trans a5, a5.new L n3 (by rw [h3]; simp), a5.h _ _ h3, (r2.mono a3.s).mono a5.s, e2, e3⟩
                  | true =>
                    dsimp only at e2 ⊢
                    rw [if_pos rfl]
                    have fin : ∀ yd out', out = yd :: out' → lcGo T c f (wipeE env vs) (ds.drop (i + 1)) = some out' → ∀ yv Hs6 H6, Ext Hs5 H5 Hs6 H6 → Rep K Hs6 yv yd →
                        ∃ acc, H6 L = some (.lst acc) ∧ acc.length < sizeLine ∧ (i + 1 ≤ ds.length ∧ ∃ Hs2 acc' done out, Ext Hs1 H1 Hs2 (upd H6 L (.lst (acc ++ [yv]))) ∧ Hs2 L = none ∧ (upd H6 L (.lst (acc ++ [yv]))) L = some (.lst acc') ∧ Reps K Hs2 acc' done ∧ lcGo T c f (wipeE env vs) (ds.drop (i + 1)) = some out ∧ done ++ out = total) := by
                      intro yd out' eo eo2 yv Hs6 H6 a6 ry
                      have a7 := (a3.trans a5).trans a6
                      have n6 : Hs6 L = none := a7.new L n2 (by rw [h2]; simp)
                      have h6 : H6 L = some (.lst acc) := a7.h _ _ h2
                      refine ⟨acc, h6, ?_, hlt, Hs6, acc ++ [yv], done ++ [yd], out', (a2.trans a7).mut nH1 n6, n6, upd_same, (r2.mono a7.s).append (.cons ry .nil), eo2, ?_⟩
                      · have l1 := r2.length
                        have l2 : (done ++ out).length = total.length := congrArg List.length e3
                        rw [List.length_append, eo, List.length_cons] at l2
                        omega
                      · rw [← e3, eo, List.append_assoc] <;> rfl
                    cases ef : f env1 with
                    | none => rw [ef] at e2; cases e2
                    | some rf =>
                      rw [ef] at e2
                      cases rf with
                      | x e' => cases e2
                      | v yd =>
                        dsimp only at e2
                        cases er : lcGo T c f (wipeE env vs) (ds.drop (i + 1)) with
                        | none => rw [er] at e2; cases e2
                        | some out' =>
                          rw [er] at e2
                          have eo : out = yd :: out' := (Option.some.inj e2).symm
                          rw [← er]
                          exact ⟨env1, Hs5, _, F4.ext a5, ef, fun yv Hs6 H6 a6 ry => fin yd out' eo er yv Hs6 H6 a6 ry⟩
                      | n yd =>
                        dsimp only at e2
                        cases er : lcGo T c f (wipeE env vs) (ds.drop (i + 1)) with
                        | none => rw [er] at e2; cases e2
                        | some out' =>
                          rw [er] at e2
                          have eo : out = yd :: out' := (Option.some.inj e2).symm
                          rw [← er]
                          refine ⟨env1, Hs5, _, F4.ext a5, ef, fun yv Hs6 H6 a6 ry => ?_⟩
                          obtain ⟨Hs7, a7, ry7⟩ := ry.share a6
                          exact fin yd out' eo er yv Hs7 H6 a7 ry7
          · left
            have ei : i = ds.length := by omega
            subst ei
            refine ⟨w.stop H2 (a2.s.trans a2.sub), ?_⟩
            rw [List.drop_length] at e2
            have eo : out = [] := (Option.some.inj e2).symm
            subst eo
            rw [List.append_nil] at e3
            subst e3
            exact q _ Hs2 H2 (a1.trans a2) (.inl ⟨L, _, rfl, a1.h.free nH1, n2, h2, .lst r2⟩)
theorem pd_lc (hc : X.calm = true) (hN : X.N.Nodup) (hi : PID X W tg iter g) (ok : BlkOk X.N X.env.scope scope own)
    (hg : ∀ (s : Shared) (H : Hp) (C : Addr) (cl : List (Str × Addr)) (fp : List Addr), PG (X.blk s H scope (compEnvC scope cl C X.env) fp) tg (gOf X.K T)) (ht : ∀ (s : Shared) (H : Hp) (C : Addr) (cl : List (Str × Addr)) (fp : List Addr), PTs (X.blk s H scope (compEnvC scope cl C X.env) fp) ifs (rdT X.K wN c))
    (he : ∀ (s : Shared) (H : Hp) (C : Addr) (cl : List (Str × Addr)) (fp : List Addr), PD (X.blk s H scope (compEnvC scope cl C X.env) fp) wN elt f) (hv : ∀ j ∈ T.ix, j ∈ own.map (·.2) := by decide) (hs : ∀ x, foldedSetIterable iter X.env x = pure x := by intro _; rfl) :
    PD X W (.ListComp elt [⟨tg, iter, ifs, 0⟩] scope pos) (cLc g (own.map (·.2)) T c f) :=
  pd_of (pe_lc hc hN hi ok hg ht he hs) fun σ H Q env Hs r F e q => lc_red F e q hv
end
end HD

set_option Elab.async false
set_option linter.all false
set_option maxRecDepth 100000
set_option maxHeartbeats 4000000
/-! HDf: frames with owned objects; statements. -/
namespace HD
open PySem PySem.Spec PyProof.Rows L2

/-! ### a frame -/
/-- H0s, H0: the entry's heaps -/
structure FrOk (K : PySem.W.Frag) (H0s H0 : Hp) (env : En) (Hs : Hp) (σ : Sg) (H : Hp) : Prop where
  ext : Ext H0s H0 Hs H
  len : env.length = σ.length
  sh : ∀ (i : Nat) (d : D), env[i]? = some (Slot.sh d) → ∃ v, σ[i]? = some (some v) ∧ Rep K Hs v d
  own : ∀ (i : Nat) (d : D), env[i]? = some (Slot.own d) → ∃ p o, σ[i]? = some (some (V.ref p)) ∧ H0 p = none ∧ Hs p = none ∧ H p = some o ∧ RepO K Hs o d
  sep : ∀ (i j : Nat) (d d' : D) (p : Addr), env[i]? = some (Slot.own d) → env[j]? = some (Slot.own d') → σ[i]? = some (some (V.ref p)) → σ[j]? = some (some (V.ref p)) → i = j
def maskS (b : Bool) : Slot → Slot
  | .own d => if b then .own d else .un
  | s => s
def maskGo (nm : List Nat) : Nat → En → En
  | _, [] => []
  | k, s :: r => maskS (nm.contains k) s :: maskGo nm (k + 1) r
def mask (nm : List Nat) (env : En) : En := maskGo nm 0 env
def frzS (b : Bool) : Slot → Slot
  | .own d => if b then .sh d else .own d
  | s => s
def frzGo (nm : List Nat) : Nat → En → En
  | _, [] => []
  | k, s :: r => frzS (nm.contains k) s :: frzGo nm (k + 1) r
def freeze (nm : List Nat) (env : En) : En := frzGo nm 0 env
theorem maskGo_get (nm : List Nat) : ∀ (k : Nat) (env : En) (i : Nat), (maskGo nm k env)[i]? = (env[i]?).map (maskS (nm.contains (k + i)))
  | _, [], i => by simp [maskGo]
  | k, s :: r, 0 => rfl
  | k, s :: r, i + 1 => by
    show (maskGo nm (k + 1) r)[i]? = _
    rw [maskGo_get nm (k + 1) r i, show k + 1 + i = k + (i + 1) by omega] <;> rfl
theorem frzGo_get (nm : List Nat) : ∀ (k : Nat) (env : En) (i : Nat), (frzGo nm k env)[i]? = (env[i]?).map (frzS (nm.contains (k + i)))
  | _, [], i => by simp [frzGo]
  | k, s :: r, 0 => rfl
  | k, s :: r, i + 1 => by
    show (frzGo nm (k + 1) r)[i]? = _
    rw [frzGo_get nm (k + 1) r i, show k + 1 + i = k + (i + 1) by omega] <;> rfl
theorem mask_get (nm : List Nat) (env : En) (i : Nat) : (mask nm env)[i]? = (env[i]?).map (maskS (nm.contains i)) := by
  unfold mask
  rw [maskGo_get, Nat.zero_add]
theorem freeze_get (nm : List Nat) (env : En) (i : Nat) : (freeze nm env)[i]? = (env[i]?).map (frzS (nm.contains i)) := by
  unfold freeze
  rw [frzGo_get, Nat.zero_add]
theorem maskGo_len (nm : List Nat) : ∀ (k : Nat) (env : En), (maskGo nm k env).length = env.length
  | _, [] => rfl
  | k, s :: r => congrArg (· + 1) (maskGo_len nm (k + 1) r)
theorem frzGo_len (nm : List Nat) : ∀ (k : Nat) (env : En), (frzGo nm k env).length = env.length
  | _, [] => rfl
  | k, s :: r => congrArg (· + 1) (frzGo_len nm (k + 1) r)
/-- p is owned by a slot of nm -/
def OwnM (nm : List Nat) (env : En) (σ : Sg) (p : Addr) : Prop := ∃ (i : Nat) (d : D), nm.contains i = true ∧ env[i]? = some (Slot.own d) ∧ σ[i]? = some (some (V.ref p))
open Classical in
/-- the frozen heap with what the slots of nm own -/
noncomputable def lift (nm : List Nat) (env : En) (σ : Sg) (Hs H : Hp) : Hp := fun a => if OwnM nm env σ a then H a else Hs a
open Classical in
noncomputable def cut (nm : List Nat) (env : En) (σ : Sg) (Hs : Hp) : Hp := fun a => if OwnM nm env σ a then none else Hs a
section
variable {K : PySem.W.Frag} {H0s H0 : Hp} {env env' : En} {Hs H Hs1 H1 : Hp} {σ : Sg} {nm : List Nat} {v : V} {d : D}
theorem FrOk.sub (F : FrOk K H0s H0 env Hs σ H) : Same Hs H := F.ext.sub
theorem FrOk.ownM (F : FrOk K H0s H0 env Hs σ H) {p : Addr} (h : OwnM nm env σ p) : H0 p = none ∧ Hs p = none ∧ ∃ o d, H p = some o ∧ RepO K Hs o d := by
  obtain ⟨i, d, hi, he, hs⟩ := h
  obtain ⟨q, o, e1, h0, hn, hp, r⟩ := F.own i d he
  rw [hs] at e1
  cases e1
  exact ⟨h0, hn, o, d, hp, r⟩
theorem lift_in {p : Addr} (h : OwnM nm env σ p) : lift nm env σ Hs H p = H p := if_pos h
theorem lift_out {p : Addr} (h : ¬ OwnM nm env σ p) : lift nm env σ Hs H p = Hs p := if_neg h
theorem cut_in {p : Addr} (h : OwnM nm env σ p) : cut nm env σ Hs p = none := if_pos h
theorem cut_out {p : Addr} (h : ¬ OwnM nm env σ p) : cut nm env σ Hs p = Hs p := if_neg h
theorem FrOk.lift_up (F : FrOk K H0s H0 env Hs σ H) (nm : List Nat) : Same Hs (lift nm env σ Hs H) := fun a o e => by
  by_cases h : OwnM nm env σ a
  · have := (F.ownM h).2.1
    rw [e] at this; cases this
  · rw [lift_out h]; exact e
theorem FrOk.lift_sub (F : FrOk K H0s H0 env Hs σ H) (nm : List Nat) : Same (lift nm env σ Hs H) H := fun a o e => by
  by_cases h : OwnM nm env σ a
  · rw [lift_in h] at e; exact e
  · rw [lift_out h] at e; exact F.sub a o e
theorem FrOk.ext_lift (F : FrOk K H0s H0 env Hs σ H) (nm : List Nat) : Ext H0s H0 (lift nm env σ Hs H) H :=
  ⟨F.ext.s.trans (F.lift_up nm), F.ext.h, F.lift_sub nm, fun a h1 h2 => by
    by_cases h : OwnM nm env σ a
    · exact absurd (F.ownM h).1 h2
    · rw [lift_out h]; exact F.ext.new a h1 h2⟩
theorem maskS_val {b : Bool} {s : Slot} {d : D} (h : (maskS b s).val = some d) : s = .sh d ∨ (s = .own d ∧ b = true) := by
  cases s with
  | un => cases h
  | sh e => exact .inl (by rw [Option.some.inj (show some e = some d from h)])
  | own e =>
    cases b with
    | true => exact .inr ⟨by rw [Option.some.inj (show some e = some d from h)], rfl⟩
    | false => cases h
/-- for an expression that reads the slots of nm -/
theorem FrOk.thaw (F : FrOk K H0s H0 env Hs σ H) (nm : List Nat) : FrE K (mask nm env) (lift nm env σ Hs H) σ H where
  sub := F.lift_sub nm
  len := by unfold mask; rw [maskGo_len]; exact F.len
  val := fun i d e => by
    unfold getv at e
    rw [mask_get] at e
    cases ei : env[i]? with
    | none => rw [ei] at e; cases e
    | some s =>
      rw [ei] at e
      rcases maskS_val (show (maskS (nm.contains i) s).val = some d from e) with rfl | ⟨rfl, hb⟩
      · obtain ⟨v, h1, h2⟩ := F.sh i d ei
        exact ⟨v, h1, h2.mono (F.lift_up nm)⟩
      · obtain ⟨p, o, h1, h2, h3, h4, h5⟩ := F.own i d ei
        refine ⟨_, h1, (h5.mono (F.lift_up nm)).rep ?_⟩
        rw [lift_in ⟨i, d, hb, ei, h1⟩]
        exact h4
mutual
theorem Rep.strip {Hs Hs' : Hp} (h : ∀ a xs, (Hs a = some (.tup xs) → Hs' a = some (.tup xs)) ∧ ∀ o, Hs a = some (.frz o (.tup xs)) → Hs' a = some (.frz o (.tup xs))) : ∀ {d : D} {v : V}, d.flat = true → Rep K Hs v d → Rep K Hs' v d
  | .non, _, _, r => by cases r; exact .non
  | .bl _, _, _, r => by cases r; exact .bl _
  | .int _, _, _, r => by cases r; exact .int _
  | .str _, _, _, r => by cases r; exact .str _
  | .tup l, _, e, r => by
    unfold D.flat at e
    cases r with
    | tup h1 r1 =>
      refine .tup ?_ (Reps.strip h e r1)
      rcases h1 with z | z
      · exact .inl ((h _ _).1 z)
      · exact .inr z
  | .lst _, _, e, _ => by simp [D.flat] at e
  | .scr _, _, e, _ => by simp [D.flat] at e
  | .dic _, _, e, _ => by simp [D.flat] at e
  | .dit _, _, e, _ => by simp [D.flat] at e
  | .ins _ _, _, e, _ => by simp [D.flat] at e
  | .exn _ _, _, e, _ => by simp [D.flat] at e
theorem Reps.strip {Hs Hs' : Hp} (h : ∀ a xs, (Hs a = some (.tup xs) → Hs' a = some (.tup xs)) ∧ ∀ o, Hs a = some (.frz o (.tup xs)) → Hs' a = some (.frz o (.tup xs))) : ∀ {d : List D} {v : List V}, D.flats d = true → Reps K Hs v d → Reps K Hs' v d
  | [], _, _, r => by cases r; exact .nil
  | d :: ds, _, e, r => by
    unfold D.flats at e
    rw [Bool.and_eq_true] at e
    cases r with
    | cons h1 r1 => exact .cons (Rep.strip h e.1 h1) (Reps.strip h e.2 r1)
end
theorem RepK.strip {Hs Hs' : Hp} (h : ∀ a xs, (Hs a = some (.tup xs) → Hs' a = some (.tup xs)) ∧ ∀ o, Hs a = some (.frz o (.tup xs)) → Hs' a = some (.frz o (.tup xs))) : ∀ {l : List (D × D)} {kvs : List (Key × V)}, (∀ p ∈ l, p.2.flat = true) → RepK K Hs kvs l → RepK K Hs' kvs l
  | [], _, _, r => by cases r; exact .nil
  | p :: l, _, e, r => by
    cases r with
    | cons h1 r1 => exact .cons (h1.strip h (e _ (List.mem_cons_self ..))) (RepK.strip h (fun q hq => e q (List.mem_cons_of_mem _ hq)) r1)
theorem RepT.strip {Hs Hs' : Hp} (h : ∀ a xs, (Hs a = some (.tup xs) → Hs' a = some (.tup xs)) ∧ ∀ o, Hs a = some (.frz o (.tup xs)) → Hs' a = some (.frz o (.tup xs))) : ∀ {l : List (D × D)} {kvs : List (List Key × V)}, (∀ p ∈ l, p.2.flat = true) → RepT K Hs kvs l → RepT K Hs' kvs l
  | [], _, _, r => by cases r; exact .nil
  | p :: l, _, e, r => by
    cases r with
    | cons h1 r1 => exact .cons (h1.strip h (e _ (List.mem_cons_self ..))) (RepT.strip h (fun q hq => e q (List.mem_cons_of_mem _ hq)) r1)
theorem flats_all {l : List (D × D)} (h : (l.all fun p => p.1.flat && p.2.flat) = true) : ∀ p ∈ l, p.2.flat = true := fun p hp => by
  have := List.all_eq_true.mp h p hp
  rw [Bool.and_eq_true] at this
  exact this.2
theorem flatN_dic {l : List (D × D)} (h : D.flatN (.dic l) = true) : ∀ p ∈ l, p.2.flat = true := by
  cases l with
  | nil => intro p hp; cases hp
  | cons q l => exact flats_all h
theorem flatN_dit {l : List (D × D)} (h : D.flatN (.dit l) = true) : ∀ p ∈ l, p.2.flat = true := flats_all h
theorem RepO.strip {Hs Hs' : Hp} {o : HO} (h : ∀ a xs, (Hs a = some (.tup xs) → Hs' a = some (.tup xs)) ∧ ∀ o, Hs a = some (.frz o (.tup xs)) → Hs' a = some (.frz o (.tup xs))) (e : d.flatN = true) (r : RepO K Hs o d) : RepO K Hs' o d := by
  cases r with
  | lst r => exact .lst (Reps.strip h e r)
  | dic r => exact .dic (RepK.strip h (flatN_dic e) r)
  | dit r => exact .dit (RepT.strip h (flatN_dit e) r)
/-- behind an expression whose value is flat: the owned ones stay owned -/
theorem FrOk.keep (F : FrOk K H0s H0 env Hs σ H) (a : Ext (lift nm env σ Hs H) H Hs1 H1) : Same Hs (cut nm env σ Hs1) ∧ FrOk K H0s H0 env (cut nm env σ Hs1) σ H1 ∧
    (∀ b xs, (Hs1 b = some (.tup xs) → cut nm env σ Hs1 b = some (.tup xs)) ∧ ∀ o, Hs1 b = some (.frz o (.tup xs)) → cut nm env σ Hs1 b = some (.frz o (.tup xs))) := by
  have up : Same Hs (cut nm env σ Hs1) := fun b o e => by
    by_cases h : OwnM nm env σ b
    · have := (F.ownM h).2.1
      rw [e] at this; cases this
    · rw [cut_out h]
      exact a.s b o (F.lift_up nm b o e)
  have down : Same (cut nm env σ Hs1) H1 := fun b o e => by
    by_cases h : OwnM nm env σ b
    · rw [cut_in h] at e; cases e
    · rw [cut_out h] at e; exact a.sub b o e
  have nots : ∀ b, OwnM nm env σ b → (∀ xs, Hs1 b ≠ some (.tup xs)) ∧ ∀ o u, Hs1 b ≠ some (.frz o u) := fun b h => by
    obtain ⟨_, _, o, d, hb, r⟩ := F.ownM h
    have hb1 := a.h _ _ hb
    obtain ⟨n1, n2⟩ := r.notup
    refine ⟨fun xs e => ?_, fun o' u e => ?_⟩
    · have := a.sub _ _ e
      rw [hb1] at this
      exact n1 xs (Option.some.inj this)
    · have := a.sub _ _ e
      rw [hb1] at this
      exact n2 o' u (Option.some.inj this)
  refine ⟨up, ⟨⟨F.ext.s.trans up, F.ext.h.trans a.h, down, fun b h1 h2 => ?_⟩, F.len, fun i d e => ?_, fun i d e => ?_, F.sep⟩, fun b xs => ⟨fun e => ?_, fun o e => ?_⟩⟩
  · by_cases h : OwnM nm env σ b
    · exact cut_in h
    · rw [cut_out h]
      refine a.new b ?_ fun z => ?_
      · rw [lift_out h]; exact F.ext.new b h1 h2
      · exact h2 (F.ext.h.free z)
  · obtain ⟨v, h1, h2⟩ := F.sh i d e
    exact ⟨v, h1, h2.mono up⟩
  · obtain ⟨p, o, h1, h2, h3, h4, h5⟩ := F.own i d e
    refine ⟨p, o, h1, h2, ?_, a.h _ _ h4, h5.mono up⟩
    by_cases h : OwnM nm env σ p
    · exact cut_in h
    · rw [cut_out h]
      exact a.new p (by rw [lift_out h]; exact h3) (by rw [h4]; simp)
  · by_cases h : OwnM nm env σ b
    · exact absurd e ((nots b h).1 xs)
    · rw [cut_out h]; exact e
  · by_cases h : OwnM nm env σ b
    · exact absurd e ((nots b h).2 o _)
    · rw [cut_out h]; exact e
theorem FrOk.keepX (F : FrOk K H0s H0 env Hs σ H) (a : Ext (lift nm env σ Hs H) H Hs1 H1) : ∀ b fs, Hs1 b = some (.xd fs) → cut nm env σ Hs1 b = some (.xd fs) := fun b fs e => by
  by_cases h : OwnM nm env σ b
  · obtain ⟨_, _, o, d, hb, r⟩ := F.ownM h
    have hb1 := a.h _ _ hb
    have := a.sub _ _ e
    rw [hb1] at this
    cases r <;> cases this
  · rw [cut_out h]; exact e
/-- behind an expression whose value isn't: what the slots of nm owned is frozen -/
theorem FrOk.frz (F : FrOk K H0s H0 env Hs σ H) (a : Ext (lift nm env σ Hs H) H Hs1 H1) : Same Hs Hs1 ∧ FrOk K H0s H0 (freeze nm env) Hs1 σ H1 := by
  have up : Same Hs Hs1 := (F.lift_up nm).trans a.s
  have ow : ∀ (i : Nat) (d : D), (freeze nm env)[i]? = some (Slot.own d) → env[i]? = some (Slot.own d) ∧ nm.contains i = false := fun i d e => by
    rw [freeze_get] at e
    cases ei : env[i]? with
    | none => rw [ei] at e; cases e
    | some s =>
      rw [ei] at e
      have e2 := Option.some.inj e
      cases s with
      | un => cases e2
      | sh x => cases e2
      | own x =>
        cases hb : nm.contains i with
        | true => rw [hb] at e2; cases e2
        | false => rw [hb] at e2; exact ⟨by rw [show x = d from Slot.own.inj e2], rfl⟩
  refine ⟨up, (F.ext_lift nm).trans a, by unfold freeze; rw [frzGo_len]; exact F.len, fun i d e => ?_, fun i d e => ?_, fun i j d d' p h1 h2 => F.sep i j d d' p (ow i d h1).1 (ow j d' h2).1⟩
  · rw [freeze_get] at e
    cases ei : env[i]? with
    | none => rw [ei] at e; cases e
    | some s =>
      rw [ei] at e
      have e2 := Option.some.inj e
      cases s with
      | un => cases e2
      | sh x =>
        have e3 : x = d := Slot.sh.inj e2
        subst e3
        obtain ⟨v, h1, h2⟩ := F.sh i x ei
        exact ⟨v, h1, h2.mono up⟩
      | own x =>
        cases hb : nm.contains i with
        | false => rw [hb] at e2; cases e2
        | true =>
          rw [hb] at e2
          have e3 : x = d := Slot.sh.inj e2
          subst e3
          obtain ⟨p, o, h1, h2, h3, h4, h5⟩ := F.own i x ei
          refine ⟨_, h1, (h5.mono up).rep (a.s _ _ ?_)⟩
          rw [lift_in ⟨i, x, hb, ei, h1⟩]
          exact h4
  · obtain ⟨e1, hb⟩ := ow i d e
    obtain ⟨p, o, h1, h2, h3, h4, h5⟩ := F.own i d e1
    refine ⟨p, o, h1, h2, ?_, a.h _ _ h4, h5.mono up⟩
    have hno : ¬ OwnM nm env σ p := fun ⟨j, d2, hj, ej, sj⟩ => by
      have := F.sep i j d d2 p e1 ej h1 sj
      subst this
      rw [hb] at hj; cases hj
    exact a.new p (by rw [lift_out hno]; exact h3) (by rw [h4]; simp)
/-- the heap grows -/
theorem FrOk.ext' (F : FrOk K H0s H0 env Hs σ H) (a : Ext Hs H Hs1 H1) : FrOk K H0s H0 env Hs1 σ H1 :=
  ⟨F.ext.trans a, F.len, fun i d e => let ⟨v, h1, h2⟩ := F.sh i d e; ⟨v, h1, h2.mono a.s⟩,
    fun i d e => let ⟨p, o, h1, h2, h3, h4, h5⟩ := F.own i d e; ⟨p, o, h1, h2, a.new p h3 (by rw [h4]; simp), a.h _ _ h4, h5.mono a.s⟩, F.sep⟩
theorem FrOk.set (F : FrOk K H0s H0 env Hs σ H) (r : Rep K Hs v d) (i : Nat) : FrOk K H0s H0 (env.set i (.sh d)) Hs (σ.set i (some v)) H := by
  have ow : ∀ (j : Nat) (e : D), (env.set i (.sh d))[j]? = some (Slot.own e) → j ≠ i ∧ env[j]? = some (Slot.own e) := fun j e h => by
    by_cases hj : i = j
    · subst hj
      by_cases hl : i < env.length
      · rw [List.getElem?_set_self hl] at h; cases h
      · rw [List.getElem?_eq_none (by simpa using hl)] at h; cases h
    · rw [List.getElem?_set_ne hj] at h
      exact ⟨fun z => hj z.symm, h⟩
  refine ⟨F.ext, by rw [List.length_set, List.length_set]; exact F.len, fun j e h => ?_, fun j e h => ?_, fun j k e e' p h1 h2 h3 h4 => ?_⟩
  · by_cases hj : i = j
    · subst hj
      by_cases hl : i < env.length
      · rw [List.getElem?_set_self hl] at h
        have e2 : d = e := Slot.sh.inj (Option.some.inj h)
        subst e2
        exact ⟨v, List.getElem?_set_self (by rw [← F.len]; exact hl), r⟩
      · rw [List.getElem?_eq_none (by simpa using hl)] at h; cases h
    · rw [List.getElem?_set_ne hj] at h
      obtain ⟨w, h1, h2⟩ := F.sh j e h
      exact ⟨w, by rw [List.getElem?_set_ne hj]; exact h1, h2⟩
  · obtain ⟨hj, h'⟩ := ow j e h
    obtain ⟨p, o, h1, h2⟩ := F.own j e h'
    exact ⟨p, o, by rw [List.getElem?_set_ne (Ne.symm hj)]; exact h1, h2⟩
  · obtain ⟨hj, h1'⟩ := ow j e h1
    obtain ⟨hk, h2'⟩ := ow k e' h2
    rw [List.getElem?_set_ne (Ne.symm hj)] at h3
    rw [List.getElem?_set_ne (Ne.symm hk)] at h4
    exact F.sep j k e e' p h1' h2' h3 h4
/-- a new object of one's own -/
theorem FrOk.setO {p : Addr} {o : HO} (F : FrOk K H0s H0 env Hs σ H) (h0 : H0 p = none) (hn : Hs p = none) (hp : H p = some o) (r : RepO K Hs o d) (hf : ∀ (j : Nat) (e : D), env[j]? = some (Slot.own e) → σ[j]? ≠ some (some (V.ref p))) (i : Nat) :
    FrOk K H0s H0 (env.set i (.own d)) Hs (σ.set i (some (.ref p))) H := by
  have ow : ∀ (j : Nat) (e : D), (env.set i (.own d))[j]? = some (Slot.own e) → (j = i ∧ i < env.length ∧ e = d) ∨ (j ≠ i ∧ env[j]? = some (Slot.own e)) := fun j e h => by
    by_cases hj : i = j
    · subst hj
      by_cases hl : i < env.length
      · rw [List.getElem?_set_self hl] at h
        exact .inl ⟨rfl, hl, (Slot.own.inj (Option.some.inj h)).symm⟩
      · rw [List.getElem?_eq_none (by simpa using hl)] at h; cases h
    · rw [List.getElem?_set_ne hj] at h
      exact .inr ⟨fun z => hj z.symm, h⟩
  refine ⟨F.ext, by rw [List.length_set, List.length_set]; exact F.len, fun j e h => ?_, fun j e h => ?_, fun j k e e' q h1 h2 h3 h4 => ?_⟩
  · by_cases hj : i = j
    · subst hj
      by_cases hl : i < env.length
      · rw [List.getElem?_set_self hl] at h; cases h
      · rw [List.getElem?_eq_none (by simpa using hl)] at h; cases h
    · rw [List.getElem?_set_ne hj] at h
      obtain ⟨w, h1, h2⟩ := F.sh j e h
      exact ⟨w, by rw [List.getElem?_set_ne hj]; exact h1, h2⟩
  · rcases ow j e h with ⟨rfl, hl, rfl⟩ | ⟨hj, h'⟩
    · exact ⟨p, o, List.getElem?_set_self (by rw [← F.len]; exact hl), h0, hn, hp, r⟩
    · obtain ⟨q, o', h1, h2⟩ := F.own j e h'
      exact ⟨q, o', by rw [List.getElem?_set_ne (Ne.symm hj)]; exact h1, h2⟩
  · rcases ow j e h1 with ⟨rfl, hl, rfl⟩ | ⟨hj, h1'⟩
    · rcases ow k e' h2 with ⟨rfl, hl2, rfl⟩ | ⟨hk, h2'⟩
      · rfl
      · rw [List.getElem?_set_self (by rw [← F.len]; exact hl)] at h3
        cases h3
        rw [List.getElem?_set_ne (Ne.symm hk)] at h4
        exact absurd h4 (hf k e' h2')
    · rcases ow k e' h2 with ⟨rfl, hl2, rfl⟩ | ⟨hk, h2'⟩
      · rw [List.getElem?_set_self (by rw [← F.len]; exact hl2)] at h4
        cases h4
        rw [List.getElem?_set_ne (Ne.symm hj)] at h3
        exact absurd h3 (hf j e h1')
      · rw [List.getElem?_set_ne (Ne.symm hj)] at h3
        rw [List.getElem?_set_ne (Ne.symm hk)] at h4
        exact F.sep j k e e' q h1' h2' h3 h4
/-- an owned object is changed -/
theorem FrOk.mut {p : Addr} {o' : HO} {d' : D} {i : Nat} (F : FrOk K H0s H0 env Hs σ H) (he : env[i]? = some (Slot.own d)) (hs : σ[i]? = some (some (V.ref p))) (r : RepO K Hs o' d') :
    FrOk K H0s H0 (env.set i (.own d')) Hs σ (upd H p o') := by
  obtain ⟨q, o, e1, h0, hn, hp, _⟩ := F.own i d he
  rw [hs] at e1
  cases e1
  have hl : i < env.length := (List.getElem?_eq_some_iff.mp he).1
  have ow : ∀ (j : Nat) (e : D), (env.set i (.own d'))[j]? = some (Slot.own e) → (j = i ∧ e = d') ∨ (j ≠ i ∧ env[j]? = some (Slot.own e)) := fun j e h => by
    by_cases hj : i = j
    · subst hj
      rw [List.getElem?_set_self hl] at h
      exact .inl ⟨rfl, (Slot.own.inj (Option.some.inj h)).symm⟩
    · rw [List.getElem?_set_ne hj] at h
      exact .inr ⟨fun z => hj z.symm, h⟩
  have any : ∀ (j : Nat) (e : D), (env.set i (.own d'))[j]? = some (Slot.own e) → ∃ e', env[j]? = some (Slot.own e') := fun j e h => by
    rcases ow j e h with ⟨rfl, _⟩ | ⟨_, h'⟩
    · exact ⟨d, he⟩
    · exact ⟨e, h'⟩
  refine ⟨F.ext.mut h0 hn, by rw [List.length_set]; exact F.len, fun j e h => ?_, fun j e h => ?_, fun j k e e' q h1 h2 h3 h4 => ?_⟩
  · by_cases hj : i = j
    · subst hj
      rw [List.getElem?_set_self hl] at h; cases h
    · rw [List.getElem?_set_ne hj] at h
      exact F.sh j e h
  · rcases ow j e h with ⟨rfl, rfl⟩ | ⟨hj, h'⟩
    · exact ⟨p, o', hs, h0, hn, upd_same, r⟩
    · obtain ⟨q, o2, h1, h2, h3, h4, h5⟩ := F.own j e h'
      refine ⟨q, o2, h1, h2, h3, ?_, h5⟩
      rw [upd_ne]
      · exact h4
      · intro z
        subst z
        exact hj (F.sep j i e d _ h' he h1 hs)
  · obtain ⟨e2, g1⟩ := any j e h1
    obtain ⟨e3, g2⟩ := any k e' h2
    exact F.sep j k e2 e3 q g1 g2 h3 h4
theorem gs_frOk : ∀ (is : List Nat) (ds : List D) (vs : List V) (env env' : En) (σ : Sg) (Q : Sg → Hp → Prop), FrOk K H0s H0 env Hs σ H → Reps K Hs vs ds → setAll is ds env = some env' →
    (∀ σ', FrOk K H0s H0 env' Hs σ' H → Q σ' H) → gsOf is vs σ H Q
  | [], ds, vs, env, env', σ, Q, F, r, e, k => by
    cases ds with
    | nil =>
      cases r
      have e2 := Option.some.inj e
      subst e2
      exact ⟨rfl, k σ F⟩
    | cons d ds => cases e
  | i :: is, ds, vs, env, env', σ, Q, F, r, e, k => by
    cases ds with
    | nil => cases e
    | cons d ds =>
      cases r with
      | cons h r => exact ⟨_, _, rfl, gs_frOk is ds _ _ env' _ Q (F.set h i) r e k⟩
theorem tg_frOk {tg : Tg} {Q : Sg → Hp → Prop} (F : FrOk K H0s H0 env Hs σ H) (r : Rep K Hs v d) (e : tg.set d env = some env') (k : ∀ σ', FrOk K H0s H0 env' Hs σ' H → Q σ' H) : gOf K tg v σ H Q := by
  unfold Tg.set at e
  split at e
  · have e2 := Option.some.inj e
    subst e2
    exact k _ (F.set r _)
  · cases r with
    | tup h r => exact ⟨_, _, rfl, same_sqt F.sub h, by rw [r.length]; exact (setAll_len _ _ _ _ e).symm, gs_frOk _ _ _ _ _ _ _ F r e k⟩
  · cases e
end

/-! ### statements -/
inductive Out | nx (env : En) | rt (u : Vn) | bk (env : En) | ct (env : En) | x (e : D) (env : En)
abbrev Sm := En → Option Out
def endS (K : PySem.W.Frag) (W : WX) (H0s H0 Hs : Hp) (D : Ends) : Out → Prop
  | .nx env' => ∀ Hs' σ' H', Same Hs Hs' → FrOk K H0s H0 env' Hs' σ' H' → D.nx σ' H'
  | .bk env' => ∀ Hs' σ' H', Same Hs Hs' → FrOk K H0s H0 env' Hs' σ' H' → D.bk σ' H'
  | .ct env' => ∀ Hs' σ' H', Same Hs Hs' → FrOk K H0s H0 env' Hs' σ' H' → D.ct σ' H'
  | .rt u => endV K H0s H0 D.rt u
  | .x e env' => ∀ cls dd Hs' σ' H', Same Hs Hs' → FrOk K H0s H0 env' Hs' σ' H' → RepX K Hs' H' e cls dd → W cls dd σ' H'
def rdS (K : PySem.W.Frag) (W : WX) (F : Sm) : TS := fun D σ H => ∃ H0s H0 env Hs o, FrOk K H0s H0 env Hs σ H ∧ F env = some o ∧ endS K W H0s H0 Hs D o
abbrev PSD (X : Cx) (W : WX) (st : Stmt) (F : Sm) : Prop := PS X st (rdS X.K W F)
abbrev PSsD (X : Cx) (W : WX) (st : List Stmt) (F : Sm) : Prop := PSs X st (rdS X.K W F)
def D.flatX : D → Bool
  | .exn _ gs => gs.all fun p => p.2.flat
  | _ => false
/-- an expression of a statement; nm: the slots that it reads -/
def evx (nm : List Nat) (f : Ev) (env : En) (k : Vn → En → Option Out) : Option Out :=
  match f (mask nm env) with
  | none => none
  | some (.x e) => if e.flatX then some (.x e env) else none
  | some (.v d) => if d.flat then k (.v d) env else k (.v d) (freeze nm env)
  | some (.n d) => if d.flatN then k (.n d) env else k (.n d) (freeze nm env)
/-- what a statement gets of it -/
def Got (K : PySem.W.Frag) (H0 : Hp) (env : En) (Hs : Hp) (σ : Sg) (H : Hp) (v : V) : Vn → Prop
  | .v d => Rep K Hs v d
  | .n d => (∃ p o, v = .ref p ∧ H0 p = none ∧ Hs p = none ∧ H p = some o ∧ RepO K Hs o d ∧ ∀ (j : Nat) (e : D), env[j]? = some (Slot.own e) → σ[j]? ≠ some (some (V.ref p))) ∨
    ∃ p ps xs ds, d = .tup ds ∧ v = .ref p ∧ H0 p = none ∧ Hs p = none ∧ H p = some (.tup xs) ∧ p ∉ ps ∧ RepP K H0 Hs H ps xs ds ∧ ∀ q ∈ p :: ps, ∀ (j : Nat) (e : D), env[j]? = some (Slot.own e) → σ[j]? ≠ some (some (V.ref q))
section
variable {K : PySem.W.Frag} {W : WX} {H0s H0 : Hp} {env env' : En} {Hs H Hs1 H1 : Hp} {σ : Sg} {nm : List Nat} {v : V} {d : D} {D' : Ends} {o : Out} {f : Ev} {Q : VK}
theorem endS.up (s : Same Hs Hs1) (h : endS K W H0s H0 Hs D' o) : endS K W H0s H0 Hs1 D' o := by
  cases o with
  | nx e => exact fun Hs' σ' H' z => h Hs' σ' H' (s.trans z)
  | bk e => exact fun Hs' σ' H' z => h Hs' σ' H' (s.trans z)
  | ct e => exact fun Hs' σ' H' z => h Hs' σ' H' (s.trans z)
  | rt u => exact h
  | x e env' => exact fun c dd Hs' σ' H' z => h c dd Hs' σ' H' (s.trans z)
theorem RepF.strip {Hs Hs' : Hp} (h : ∀ a xs, (Hs a = some (.tup xs) → Hs' a = some (.tup xs)) ∧ ∀ o, Hs a = some (.frz o (.tup xs)) → Hs' a = some (.frz o (.tup xs))) : ∀ {gs : List (Str × D)} {fs : List (Str × V)}, (gs.all fun p => p.2.flat) = true → RepF K Hs fs gs → RepF K Hs' fs gs
  | [], _, _, r => by cases r; exact .nil
  | (f, d) :: gs, _, e, r => by
    rw [List.all_cons, Bool.and_eq_true] at e
    cases r with
    | cons h1 r1 => exact .cons (h1.strip h e.1) (RepF.strip h e.2 r1)
theorem RepX.strip {Hs Hs' : Hp} {e : D} {c : Value} {dd : Option Addr} (h : ∀ a xs, (Hs a = some (.tup xs) → Hs' a = some (.tup xs)) ∧ ∀ o, Hs a = some (.frz o (.tup xs)) → Hs' a = some (.frz o (.tup xs))) (hx : ∀ a fs, Hs a = some (.xd fs) → Hs' a = some (.xd fs)) (x : e.flatX = true) (r : RepX K Hs H e c dd) : RepX K Hs' H e c dd := by
  obtain ⟨C, gs, rfl, rfl, r⟩ := r
  refine ⟨C, gs, rfl, rfl, ?_⟩
  cases r with
  | none => exact .none
  | some e1 r => exact .some (hx _ _ e1) (r.strip h x)
theorem evx_ok {k : Vn → En → Option Out} (F : FrOk K H0s H0 env Hs σ H) (e : evx nm f env k = some o) (q : endS K W H0s H0 Hs D' o)
    (hk : ∀ v u env1 Hs1 H1, Same Hs Hs1 → FrOk K H0s H0 env1 Hs1 σ H1 → Got K H0 env1 Hs1 σ H1 v u → k u env1 = some o → endS K W H0s H0 Hs1 D' o → Q v H1) : rdE K W f σ H Q := by
  unfold evx at e
  cases ef : f (mask nm env) with
  | none => rw [ef] at e; cases e
  | some r =>
    rw [ef] at e
    refine ⟨mask nm env, _, r, F.thaw nm, ef, ?_⟩
    cases r with
    | x ex =>
      dsimp only at e
      split at e
      case isFalse => cases e
      case isTrue hx =>
        have e2 := Option.some.inj e
        subst e2
        intro cls dd Hs1 H1 a rx
        obtain ⟨s1, F1, st⟩ := F.keep a
        exact q cls dd _ σ H1 s1 F1 (rx.strip st (F.keepX a) hx)
    | v d =>
      dsimp only at e
      intro v Hs1 H1 a rv
      split at e
      · obtain ⟨s1, F1, st⟩ := F.keep a
        exact hk v (.v d) _ _ H1 s1 F1 (rv.strip st (by assumption)) e (q.up s1)
      · obtain ⟨s1, F1⟩ := F.frz a
        exact hk v (.v d) _ _ H1 s1 F1 rv e (q.up s1)
    | n d =>
      dsimp only at e
      intro v Hs1 H1 a rv
      have nobs : ∀ p, H p = none → ∀ (j : Nat) (e : D), env[j]? = some (Slot.own e) → σ[j]? ≠ some (some (V.ref p)) := fun p hp j e hj hs => by
        obtain ⟨p2, o2, g1, _, _, g4, _⟩ := F.own j e hj
        rw [hs] at g1
        cases g1
        rw [hp] at g4; cases g4
      have nobf : ∀ p, H p = none → ∀ (j : Nat) (e : D), (freeze nm env)[j]? = some (Slot.own e) → σ[j]? ≠ some (some (V.ref p)) := fun p hp j e hj hs => by
        rw [freeze_get] at hj
        cases ej : env[j]? with
        | none => rw [ej] at hj; cases hj
        | some s =>
          rw [ej] at hj
          cases s with
          | un => cases hj
          | sh _ => cases hj
          | own z => exact nobs p hp j z ej hs
      rcases rv with ⟨p, ob, rfl, hp, hn, he, ro⟩ | ⟨p, ps, xs, ds, rfl, rfl, hp, hn, he, np, r⟩
      · have h0 : H0 p = none := F.ext.h.free hp
        split at e
        · obtain ⟨s1, F1, st⟩ := F.keep a
          refine hk _ (.n d) _ _ H1 s1 F1 (.inl ⟨p, ob, rfl, h0, ?_, he, ro.strip st (by assumption), nobs p hp⟩) e (q.up s1)
          by_cases hc : OwnM nm env σ p
          · exact cut_in hc
          · rw [cut_out hc]; exact hn
        · obtain ⟨s1, F1⟩ := F.frz a
          exact hk _ (.n d) _ _ H1 s1 F1 (.inl ⟨p, ob, rfl, h0, hn, he, ro, nobf p hp⟩) e (q.up s1)
      · have h0 : H0 p = none := F.ext.h.free hp
        split at e
        · rename_i hf
          cases hf
        · obtain ⟨s1, F1⟩ := F.frz a
          refine hk _ (.n (.tup ds)) _ _ H1 s1 F1 (.inr ⟨p, ps, xs, ds, rfl, rfl, h0, hn, he, np, r.of F.ext.h, fun q hq => nobf q ?_⟩) e (q.up s1)
          rcases List.mem_cons.1 hq with rfl | hq
          · exact hp
          · exact (r.at q hq).1
/-- a thing that no slot owns is frozen -/
theorem FrOk.frz1 {p : Addr} {ob : HO} (F : FrOk K H0s H0 env Hs σ H) (h0 : H0 p = none) (hn : Hs p = none) (he : H p = some ob) (nob : ∀ (j : Nat) (e : D), env[j]? = some (Slot.own e) → σ[j]? ≠ some (some (V.ref p))) : FrOk K H0s H0 env (upd Hs p ob) σ H := by
  refine ⟨F.ext.freeze h0 hn he, F.len, fun i d e => ?_, fun i d e => ?_, F.sep⟩
  · obtain ⟨v, h1, h2⟩ := F.sh i d e
    exact ⟨v, h1, h2.mono (same_upd hn)⟩
  · obtain ⟨q, o, h1, h2, h3, h4, h5⟩ := F.own i d e
    refine ⟨q, o, h1, h2, ?_, h4, h5.mono (same_upd hn)⟩
    rw [upd_ne (fun z => nob i d e (by rw [h1, z]))]
    exact h3
/-- as a shared value -/
theorem Got.share {u : Vn} (F : FrOk K H0s H0 env Hs σ H) (g : Got K H0 env Hs σ H v u) : ∃ Hs2, Same Hs Hs2 ∧ FrOk K H0s H0 env Hs2 σ H ∧ Rep K Hs2 v u.d := by
  cases u with
  | v d => exact ⟨Hs, Same.refl _, F, g⟩
  | n d =>
    rcases g with ⟨p, ob, rfl, h0, hn, he, ro, nob⟩ | ⟨p, ps, xs, ds, rfl, rfl, h0, hn, he, np, r, nob⟩
    · exact ⟨upd Hs p ob, same_upd hn, F.frz1 h0 hn he nob, (ro.mono (same_upd hn)).rep upd_same⟩
    · obtain ⟨Hs2, g1, g2, g3, g4⟩ := RepP.share (qs := ps) (fun Hs1 => FrOk K H0s H0 env Hs1 σ H) (fun Hs1 q o h hq hn he => h.frz1 (r.at q hq).1 hn he (nob q (List.mem_cons_of_mem _ hq))) r (fun _ z => z) F
      have n2 : Hs2 p = none := by rw [g4 p np]; exact hn
      exact ⟨upd Hs2 p (.tup xs), g2.trans (same_upd n2), g1.frz1 h0 n2 he (nob p (List.mem_cons_self ..)), .tup (.inl upd_same) (g3.mono (same_upd n2))⟩
end
end HD

set_option Elab.async false
set_option linter.all false
set_option maxRecDepth 100000
set_option maxHeartbeats 4000000
/-! HDg: statements; a def by its function. -/
namespace HD
open PySem PySem.Spec PyProof.Rows L2
def Vn.slot : Vn → Slot | .v d => .sh d | .n (.tup _) => .un | .n d => .own d
def cNil : Sm := fun env => some (.nx env)
def cSeq (F G : Sm) : Sm := fun env =>
  match F env with
  | some (.nx e) => G e
  | o => o
def cSet (i : Nat) (nm : List Nat) (f : Ev) : Sm := fun env => evx nm f env fun u env1 => some (.nx (env1.set i u.slot))
def cSetT (is : List Nat) (nm : List Nat) (f : Ev) : Sm := fun env => evx nm f env fun u env1 => match u with
  | .v d => ((Tg.tu is).set d env1).map .nx
  | _ => none
def cRet (nm : List Nat) (f : Ev) : Sm := fun env => match f (mask nm env) with
  | none => none
  | some (.x e) => if e.flatX then some (.x e env) else none
  | some (.v d) => some (.rt (.v d))
  | some (.n d) => some (.rt (.n d))
def cRetV (i : Nat) : Sm := fun env => match env[i]? with
  | some (.sh d) => some (.rt (.v d))
  | some (.own d) => some (.rt (.n d))
  | _ => none
def cRetN : Sm := fun _ => some (.rt (.v .non))
def cExpr (nm : List Nat) (f : Ev) : Sm := fun env => evx nm f env fun _ env1 => some (.nx env1)
def cIf (nm : List Nat) (c : Tv) (F G : Sm) : Sm := fun env => match c (mask nm env) with
  | none => none
  | some (.x e) => if e.flatX then some (.x e env) else none
  | some (.ok true) => F env
  | some (.ok false) => G env
def cPar (i j : Nat) (nm : List Nat) (f g : Ev) : Sm := fun env => match evs [f, g] (mask nm env) with
  | some (.ok [d, e]) => if d.flat && e.flat then some (.nx ((env.set i (.sh d)).set j (.sh e))) else some (.nx (((freeze nm env).set i (.sh d)).set j (.sh e)))
  | some (.x e) => if e.flatX then some (.x e env) else none
  | _ => none
def cNever : Sm := fun _ => none
section
variable {X : Cx} {W : WX} {K : PySem.W.Frag} {H0s H0 : Hp} {env env' : En} {Hs H Hs1 H1 : Hp} {σ : Sg} {nm : List Nat} {v : V} {d : D} {D' : Ends} {o : Out} {f g : Ev} {Q : VK}
  {st : Stmt} {sts : List Stmt} {F G : Sm} {i j : Nat} {x y : Str} {a b : Expr} {pos pos' : Pos} {c : Tv}
theorem psd_never : PSD X W st cNever := PS.weak ps_never fun D σ H ⟨_, _, _, _, _, _, e, _⟩ => by cases e
theorem pssd_nil : PSsD X W [] cNil := PSs.weak pss_nil fun D σ H ⟨H0s, H0, env, Hs, o, Fr, e, q⟩ => by
  have e2 := Option.some.inj e
  subst e2
  exact q Hs σ H (Same.refl _) Fr
theorem seq_rd (h : rdS K W (cSeq F G) D' σ H) : rdS K W F { D' with nx := rdS K W G D' } σ H := by
  obtain ⟨H0s, H0, env, Hs, o, Fr, e, q⟩ := h
  unfold cSeq at e
  split at e
  · rename_i e1 ef
    exact ⟨H0s, H0, env, Hs, _, Fr, ef, fun Hs' σ' H' s Fr' => ⟨H0s, H0, e1, Hs', o, Fr', e, q.up s⟩⟩
  · rename_i hn
    refine ⟨H0s, H0, env, Hs, o, Fr, e, ?_⟩
    cases o with
    | nx e1 => exact absurd e (hn e1)
    | bk e1 => exact q
    | ct e1 => exact q
    | rt u => exact q
    | x ex e1 => exact q
theorem pssd_cons (h1 : PSD X W st F) (h2 : PSsD X W sts G) : PSsD X W (st :: sts) (cSeq F G) := PSs.weak (pss_cons h1 h2) fun D σ H h => seq_rd h
theorem pssd_one (h : PSD X W st F) : PSsD X W [st] F := pss_one h
/-- a slot of which nothing is said -/
theorem FrOk.setUn (F : FrOk K H0s H0 env Hs σ H) (v : V) (i : Nat) : FrOk K H0s H0 (env.set i .un) Hs (σ.set i (some v)) H := by
  have key : ∀ (j : Nat) (e : Slot), (env.set i .un)[j]? = some e → e ≠ .un → j ≠ i ∧ env[j]? = some e := fun j e h ne => by
    by_cases hj : i = j
    · subst hj
      by_cases hl : i < env.length
      · rw [List.getElem?_set_self hl] at h
        exact absurd (Option.some.inj h).symm ne
      · rw [List.getElem?_eq_none (by simpa using hl)] at h; cases h
    · rw [List.getElem?_set_ne hj] at h
      exact ⟨fun z => hj z.symm, h⟩
  refine ⟨F.ext, by rw [List.length_set, List.length_set]; exact F.len, fun j e h => ?_, fun j e h => ?_, fun j k e e' p h1 h2 h3 h4 => ?_⟩
  · obtain ⟨hj, h'⟩ := key j _ h (by intro z; cases z)
    obtain ⟨w, h1, h2⟩ := F.sh j e h'
    exact ⟨w, by rw [List.getElem?_set_ne (Ne.symm hj)]; exact h1, h2⟩
  · obtain ⟨hj, h'⟩ := key j _ h (by intro z; cases z)
    obtain ⟨p, o, h1, h2⟩ := F.own j e h'
    exact ⟨p, o, by rw [List.getElem?_set_ne (Ne.symm hj)]; exact h1, h2⟩
  · obtain ⟨hj, h1'⟩ := key j _ h1 (by intro z; cases z)
    obtain ⟨hk, h2'⟩ := key k _ h2 (by intro z; cases z)
    rw [List.getElem?_set_ne (Ne.symm hj)] at h3
    rw [List.getElem?_set_ne (Ne.symm hk)] at h4
    exact F.sep j k e e' p h1' h2' h3 h4
theorem slot_ow {K : PySem.W.Frag} {Hs : Hp} {o : HO} {d : D} (r : RepO K Hs o d) : Vn.slot (.n d) = .own d := by
  cases r <;> rfl
theorem FrOk.setU {u : Vn} (Fr : FrOk K H0s H0 env Hs σ H) (g : Got K H0 env Hs σ H v u) (i : Nat) : FrOk K H0s H0 (env.set i u.slot) Hs (σ.set i (some v)) H := by
  cases u with
  | v d => exact Fr.set g i
  | n d =>
    rcases g with ⟨p, ob, rfl, h0, hn, he, ro, nob⟩ | ⟨p, ps, xs, ds, rfl, rfl, _⟩
    · rw [slot_ow ro]
      exact Fr.setO h0 hn he ro nob i
    · exact Fr.setUn _ i
theorem set_rd (h : rdS K W (cSet i nm f) D' σ H) : tAsg (rdE K W f) (gName i) D' σ H := by
  obtain ⟨H0s, H0, env, Hs, o, Fr, e, q⟩ := h
  refine evx_ok Fr e q fun v u env1 Hs1 H1 s1 F1 gt e1 q1 => ?_
  have e2 := Option.some.inj e1
  subst e2
  exact q1 Hs1 _ H1 (Same.refl _) (F1.setU gt i)
theorem psd_set (hN : X.N.Nodup) (hi : X.N[i]? = some x) (hx : Loc X.env.scope x) (he : PD X W a f) (hs : swapsWith a (some (.Name x pos')) pos.line X.env = pure false := by rfl) (hf : X.fn x = true ∨ X.env.scope.names.lookup x = some .local := by first | exact .inl rfl | exact .inr rfl | assumption) :
    PSD X W (.Assign [.Name x pos'] a pos) (cSet i nm f) := PS.weak (ps_set hN hi hx he hs hf) fun D σ H h => set_rd h
/-- name = [..] on one line -/
theorem psd_setLc {elt tg iter : Expr} {ifs : List Expr} {scope : Scope} {own : List (Str × Nat)} {py spos : Pos} {T : Tg} {it : Iv} (hc : X.calm = true) (hN : X.N.Nodup) (hy : X.N[i]? = some y) (hyl : X.env.scope.names.lookup y = some .local)
    (hsw : swapsWith (.ListComp elt [⟨tg, iter, ifs, 0⟩] scope pos) (some (.Name y py)) spos.line X.env = pure true) (hi : PID X W tg iter it) (ok : BlkOk X.N X.env.scope scope own)
    (hg : ∀ (s : Shared) (H : Hp) (C : Addr) (cl : List (Str × Addr)) (fp : List Addr), PG (X.blk s H scope (compEnvC scope cl C X.env) fp) tg (gOf X.K T)) (ht : ∀ (s : Shared) (H : Hp) (C : Addr) (cl : List (Str × Addr)) (fp : List Addr), PTs (X.blk s H scope (compEnvC scope cl C X.env) fp) ifs (rdT X.K wN c))
    (he : ∀ (s : Shared) (H : Hp) (C : Addr) (cl : List (Str × Addr)) (fp : List Addr), PD (X.blk s H scope (compEnvC scope cl C X.env) fp) wN elt f) (hv : ∀ j ∈ T.ix, j ∈ own.map (·.2) := by decide) (hs : ∀ x, foldedSetIterable iter X.env x = pure x := by intro _; rfl) :
    PSD X W (.Assign [.Name y py] (.ListComp elt [⟨tg, iter, ifs, 0⟩] scope pos) spos) (cSet i nm (cLc it (own.map (·.2)) T c f)) :=
  PS.weak (ps_setLc hc hN hy hyl hsw hi ok hg ht he hs) fun D σ H h => by
    obtain ⟨env, Hs, r, F, e, q⟩ : tAsg (rdE X.K W (cLc it (own.map (·.2)) T c f)) (gName i) D σ H := set_rd h
    exact lc_red F e q hv
/-- a, b, .. = e -/
theorem psd_setT {is : List Nat} {tg : Expr} (hg : PG X tg (gOf X.K (.tu is))) (he : PD X W a f) (hs : swapsWithSole [tg] a pos.line X.env = pure false := by rfl) (hw : swappedStores [tg] a X.env = pure none := by rfl)
    (h1 : (assignEach [tg] X.env).map (·.2) = [assign tg X.env] := by rfl) : PSD X W (.Assign [tg] a pos) (cSetT is nm f) := PS.weak (ps_asg he hg hs hw h1) fun D σ H ⟨H0s, H0, env, Hs, o, Fr, e, q⟩ => by
  refine evx_ok Fr e q fun v u env1 Hs1 H1 s1 F1 gt e1 q1 => ?_
  cases u with
  | n d => cases e1
  | v d =>
    dsimp only at e1
    cases et : (Tg.tu is).set d env1 with
    | none => rw [et] at e1; cases e1
    | some env2 =>
      rw [et] at e1
      have e2 := Option.some.inj e1
      subst e2
      exact tg_frOk F1 gt et fun σ' F2 => q1 Hs1 σ' H1 (Same.refl _) F2
theorem psd_ret (he : PD X W a f) : PSD X W (.Return (some a) pos) (cRet nm f) := PS.weak (ps_ret he) fun D σ H ⟨H0s, H0, env, Hs, o, Fr, e, q⟩ => by
  unfold cRet at e
  cases ef : f (mask nm env) with
  | none => rw [ef] at e; cases e
  | some r =>
    rw [ef] at e
    refine ⟨mask nm env, _, r, Fr.thaw nm, ef, ?_⟩
    cases r with
    | x ex =>
      dsimp only at e
      split at e
      case isFalse => cases e
      case isTrue hx =>
        have e2 := Option.some.inj e
        subst e2
        intro cls dd Hs1 H1 a rx
        obtain ⟨s1, F1, st⟩ := Fr.keep a
        exact q cls dd _ σ H1 s1 F1 (rx.strip st (Fr.keepX a) hx)
    | v d =>
      have e2 := Option.some.inj e
      subst e2
      intro v Hs1 H1 a rv
      exact q v Hs1 H1 ((Fr.ext_lift nm).trans a) rv
    | n d =>
      have e2 := Option.some.inj e
      subst e2
      intro v Hs1 H1 a rv
      exact q v Hs1 H1 ((Fr.ext_lift nm).trans a) (rv.of Fr.ext.h)
/-- return of a name -/
theorem psd_retV (i : Nat) {p : Pos} (hN : X.N[i]? = some x := by rfl) (hv : Vis X.env.scope x := by first | exact Or.inl rfl | exact Or.inr (Or.inl rfl) | exact Or.inr (Or.inr rfl)) (hd : (x == ("__debug__" : Str)) = false := by decide)
    (hcd : (x == ("__classdict__" : Str)) = false := by decide) : PSD X W (.Return (some (.Name x p)) pos) (cRetV i) := PS.weak (ps_ret (pe_var hN hv hd hcd)) fun D σ H ⟨H0s, H0, env, Hs, o, Fr, e, q⟩ => by
  unfold cRetV at e
  split at e
  · rename_i d ei
    have e2 := Option.some.inj e
    subst e2
    obtain ⟨v, h1, h2⟩ := Fr.sh i d ei
    exact ⟨v, h1, q v Hs H Fr.ext h2⟩
  · rename_i d ei
    have e2 := Option.some.inj e
    subst e2
    obtain ⟨p, ob, h1, h2, h3, h4, h5⟩ := Fr.own i d ei
    exact ⟨_, h1, q _ Hs H Fr.ext (.inl ⟨p, ob, rfl, h2, h3, h4, h5⟩)⟩
  · cases e
theorem psd_retN : PSD X W (.Return none pos) cRetN := PS.weak ps_retN fun D σ H ⟨H0s, H0, env, Hs, o, Fr, e, q⟩ => by
  have e2 := Option.some.inj e
  subst e2
  exact q _ Hs H Fr.ext .non
theorem psd_expr (he : PD X W a f) (hs : swapsWith a none pos.line X.env = pure false := by rfl) : PSD X W (.Expr a pos) (cExpr nm f) := PS.weak (ps_expr he hs) fun D σ H ⟨H0s, H0, env, Hs, o, Fr, e, q⟩ =>
  evx_ok Fr e q fun v u env1 Hs1 H1 s1 F1 gt e1 q1 => by
    have e2 := Option.some.inj e1
    subst e2
    exact q1 Hs1 σ H1 (Same.refl _) F1
theorem psd_doc {z j} : PSD X W (.Expr (.Constant (.str z) j pos) pos') cNil := PS.weak ps_doc fun D σ H ⟨H0s, H0, env, Hs, o, Fr, e, q⟩ => by
  have e2 := Option.some.inj e
  subst e2
  exact q Hs σ H (Same.refl _) Fr
theorem psd_pass : PSD X W (.Pass pos) cNil := PS.weak ps_pass fun D σ H ⟨H0s, H0, env, Hs, o, Fr, e, q⟩ => by
  have e2 := Option.some.inj e
  subst e2
  exact q Hs σ H (Same.refl _) Fr
/-- a test of a statement -/
theorem test_rd {r : Rt} {Q : Bool → Hp → Prop} (Fr : FrOk K H0s H0 env Hs σ H) (ec : c (mask nm env) = some r)
    (hx : ∀ ex, r = .x ex → ex.flatX = true ∧ ∀ cls dd Hs' σ' H', Same Hs Hs' → FrOk K H0s H0 env Hs' σ' H' → RepX K Hs' H' ex cls dd → W cls dd σ' H')
    (hb : ∀ b Hs1 H1, r = .ok b → Same Hs Hs1 → FrOk K H0s H0 env Hs1 σ H1 → Q b H1) : rdT K W c σ H Q := by
  refine ⟨mask nm env, _, r, Fr.thaw nm, ec, ?_⟩
  cases r with
  | ok b =>
    intro Hs1 H1 a
    obtain ⟨s1, F1, _⟩ := Fr.keep a
    exact hb b _ H1 rfl s1 F1
  | x ex =>
    obtain ⟨h1, h2⟩ := hx ex rfl
    intro cls dd Hs1 H1 a rx
    obtain ⟨s1, F1, st⟩ := Fr.keep a
    exact h2 cls dd _ σ H1 s1 F1 (rx.strip st (Fr.keepX a) h1)
theorem psd_if {t : Expr} {sa sb : List Stmt} (hc : PTD X W t c) (ha : PSsD X W sa F) (hb : PSsD X W sb G) : PSD X W (.If t sa sb pos) (cIf nm c F G) := PS.weak (ps_if hc ha hb) fun D σ H ⟨H0s, H0, env, Hs, o, Fr, e, q⟩ => by
  unfold cIf at e
  cases ec : c (mask nm env) with
  | none => rw [ec] at e; cases e
  | some r =>
    rw [ec] at e
    refine test_rd Fr ec (fun ex hr => ?_) (fun b Hs1 H1 hr s1 F1 => ?_)
    · subst hr
      dsimp only at e
      split at e
      case isFalse => cases e
      case isTrue hx =>
        have e2 := Option.some.inj e
        subst e2
        exact ⟨hx, q⟩
    · subst hr
      cases b with
      | true =>
        dsimp only at e ⊢
        rw [if_pos rfl]
        exact ⟨H0s, H0, env, Hs1, o, F1, e, q.up s1⟩
      | false =>
        dsimp only at e ⊢
        rw [if_neg Bool.false_ne_true]
        exact ⟨H0s, H0, env, Hs1, o, F1, e, q.up s1⟩
/-- a, b = x, y -/
theorem psd_par {px py pt : Pos} {kt k2 pt2} (hc : X.calm = true) (hN : X.N.Nodup) (hi : X.N[i]? = some x) (hj : X.N[j]? = some y) (hij : i ≠ j)
    (hx : X.env.scope.names.lookup x = some .local) (hy : X.env.scope.names.lookup y = some .local) (ha : PAD X W [a, b] [f, g])
    (hw : swappedStores [.Tuple [.Name x px, .Name y py] kt pt] (.Tuple [a, b] k2 pt2) X.env = pure (some [x, y]))
    (hs : swapsWithSole [.Tuple [.Name x px, .Name y py] kt pt] (.Tuple [a, b] k2 pt2) pos.line X.env = pure false := by rfl) :
    PSD X W (.Assign [.Tuple [.Name x px, .Name y py] kt pt] (.Tuple [a, b] k2 pt2) pos) (cPar i j nm f g) := PS.weak (ps_par hc hN hi hj hij hx hy ha hw hs) fun D σ H ⟨H0s, H0, env, Hs, o, Fr, e, q⟩ => by
  unfold cPar at e
  split at e
  · rename_i d1 d2 ee
    refine ⟨mask nm env, _, _, Fr.thaw nm, ee, fun vs Hs1 H1 a rv => ?_⟩
    obtain ⟨v, w, rfl, r1, r2⟩ := reps2 rv
    split at e
    · rename_i hf
      rw [Bool.and_eq_true] at hf
      have e2 := Option.some.inj e
      subst e2
      obtain ⟨s1, F1, st⟩ := Fr.keep a
      exact ⟨v, w, rfl, q _ _ H1 s1 ((F1.set (r1.strip st hf.1) i).set (r2.strip st hf.2) j)⟩
    · have e2 := Option.some.inj e
      subst e2
      obtain ⟨s1, F1⟩ := Fr.frz a
      exact ⟨v, w, rfl, q _ _ H1 s1 ((F1.set r1 i).set r2 j)⟩
  · rename_i ex ee
    split at e
    case isFalse => cases e
    case isTrue hx =>
      have e2 := Option.some.inj e
      subst e2
      refine ⟨mask nm env, _, _, Fr.thaw nm, ee, fun cls dd Hs1 H1 a rx => ?_⟩
      obtain ⟨s1, F1, st⟩ := Fr.keep a
      exact q cls dd _ σ H1 s1 F1 (rx.strip st (Fr.keepX a) hx)
  · cases e
end

/-! ### loops -/
def forGo (tg : Tg) (body : Sm) : En → List D → Option Out
  | env, [] => some (.nx env)
  | env, d :: r => match tg.set d env with
    | none => none
    | some e1 => match body e1 with
      | some (.nx e2) => forGo tg body e2 r
      | some (.ct e2) => forGo tg body e2 r
      | some (.bk e2) => some (.nx e2)
      | o => o
def cFor (nm : List Nat) (g : Iv) (tg : Tg) (body : Sm) : Sm := fun env => match g (mask nm env) with
  | none => none
  | some (.x e) => if e.flatX then some (.x e env) else none
  | some (.ok ds true) => forGo tg body (freeze nm env) ds
  | some (.ok ds false) => forGo tg body env ds
def whGo (nm : List Nat) (c : Tv) (body : Sm) : Nat → En → Option Out
  | 0, _ => none
  | n + 1, env => match c (mask nm env) with
    | none => none
    | some (.x e) => if e.flatX then some (.x e env) else none
    | some (.ok false) => some (.nx env)
    | some (.ok true) => match body env with
      | some (.nx e2) => whGo nm c body n e2
      | some (.ct e2) => whGo nm c body n e2
      | some (.bk e2) => some (.nx e2)
      | o => o
open Classical in
noncomputable def cWhile (nm : List Nat) (c : Tv) (body : Sm) : Sm := fun env => if h : ∃ n o, whGo nm c body n env = some o then some (Classical.choose (Classical.choose_spec h)) else none
theorem whGo_up {nm : List Nat} {c : Tv} {body : Sm} : ∀ {n : Nat} {env : En} {o : Out}, whGo nm c body n env = some o → whGo nm c body (n + 1) env = some o
  | 0, _, _, h => by cases h
  | n + 1, env, o, h => by
    unfold whGo at h ⊢
    split at h
    · cases h
    · exact h
    · exact h
    · split at h
      · exact whGo_up h
      · exact whGo_up h
      · exact h
      · exact h
theorem whGo_le {nm : List Nat} {c : Tv} {body : Sm} {n m : Nat} {env : En} {o : Out} (hm : n ≤ m) (h : whGo nm c body n env = some o) : whGo nm c body m env = some o := by
  induction hm with
  | refl => exact h
  | step _ ih => exact whGo_up ih
theorem cWhile_eq {nm : List Nat} {c : Tv} {body : Sm} {n : Nat} {env : En} {o : Out} (h : whGo nm c body n env = some o) : cWhile nm c body env = some o := by
  have hx : ∃ n o, whGo nm c body n env = some o := ⟨n, o, h⟩
  unfold cWhile
  rw [dif_pos hx]
  have q := Classical.choose_spec (Classical.choose_spec hx)
  have q1 := whGo_le (Nat.le_max_left n (Classical.choose hx)) h
  have q2 := whGo_le (Nat.le_max_right n (Classical.choose hx)) q
  rw [q1] at q2
  exact q2.symm
theorem cWhile_run {nm : List Nat} {c : Tv} {body : Sm} {env : En} {o : Out} (h : cWhile nm c body env = some o) : ∃ n, whGo nm c body n env = some o := by
  unfold cWhile at h
  split at h
  · rename_i hx
    rw [← Option.some.inj h]
    exact ⟨_, Classical.choose_spec (Classical.choose_spec hx)⟩
  · cases h
/-- a turn of the loop -/
theorem cWhile_turn {nm : List Nat} {c : Tv} {body : Sm} {env e2 : En} {o : Out} (hc : c (mask nm env) = some (.ok true)) (hb : body env = some (.nx e2)) (h : cWhile nm c body e2 = some o) : cWhile nm c body env = some o := by
  obtain ⟨n, hn⟩ := cWhile_run h
  refine cWhile_eq (n := n + 1) ?_
  unfold whGo
  rw [hc]
  dsimp only
  rw [hb]
  exact hn
theorem cWhile_end {nm : List Nat} {c : Tv} {body : Sm} {env : En} (hc : c (mask nm env) = some (.ok false)) : cWhile nm c body env = some (.nx env) := by
  refine cWhile_eq (n := 1) ?_
  unfold whGo
  rw [hc]
section
variable {X : Cx} {W : WX} {K : PySem.W.Frag} {H0s H0 : Hp} {env env' : En} {Hs H Hs1 H1 : Hp} {σ : Sg} {nm : List Nat} {v : V} {d : D} {D' : Ends} {o : Out} {f : Ev} {Q : VK}
  {body : List Stmt} {F : Sm} {i j : Nat} {x y : Str} {a b tg : Expr} {pos : Pos} {c : Tv} {T : Tg} {g : Iv}
theorem for_red {base : Hp} {ds : List D} {J : It} (w : WalkD K J ds base) (Fr : FrOk K H0s H0 env Hs σ H) (sb : Same base Hs) (e : forGo T F env ds = some o) (q : endS K W H0s H0 Hs D' o) :
    ∃ W' : Nat → Nat → Sg → Hp → Prop, (∃ m, W' 0 m σ H) ∧ ∀ i m σ H, W' i m σ H →
      (J.stop i H ∧ D'.nx σ H) ∨ (J.go i H ∧ ∃ N : Sg → Hp → Prop, (∀ σ' H', N σ' H' → ∃ m', m' < m ∧ W' (i + 1) m' σ' H') ∧ ∀ x H', J.yld i H x H' → gOf K T x σ H' fun σ2 H2 => rdS K W F { D' with nx := N, ct := N, bk := D'.nx } σ2 H2) := by
  refine ⟨fun i m σ' H' => m = ds.length - i ∧ i ≤ ds.length ∧ ∃ env' Hs', FrOk K H0s H0 env' Hs' σ' H' ∧ Same Hs Hs' ∧ forGo T F env' (ds.drop i) = some o, ⟨_, rfl, Nat.zero_le _, env, Hs, Fr, Same.refl _, e⟩, ?_⟩
  rintro i m σ1 H1 ⟨rfl, hi, env1, Hs1, Fr1, s1, e1⟩
  have sb1 : Same base Hs1 := sb.trans s1
  by_cases hlt : i < ds.length
  · right
    refine ⟨w.go i H1 hlt (sb1.trans Fr1.sub), fun σ' H' => i + 1 ≤ ds.length ∧ ∃ env' Hs', FrOk K H0s H0 env' Hs' σ' H' ∧ Same Hs Hs' ∧ forGo T F env' (ds.drop (i + 1)) = some o, fun σ' H' ⟨z1, z2⟩ => ⟨ds.length - (i + 1), by omega, rfl, z1, z2⟩, fun x H2 y => ?_⟩
    have hd : ds[i]? = some ds[i] := List.getElem?_eq_getElem hlt
    have hdrop : ds.drop i = ds[i] :: ds.drop (i + 1) := List.drop_eq_getElem_cons hlt
    obtain ⟨Hs2, a2, r2⟩ := w.yld i H1 Hs1 x H2 _ hd sb1 Fr1.sub y
    rw [hdrop] at e1
    unfold forGo at e1
    cases et : T.set ds[i] env1 with
    | none => rw [et] at e1; cases e1
    | some env2 =>
      rw [et] at e1
      dsimp only at e1
      refine tg_frOk (Fr1.ext' a2) r2 et fun σ2 Fr2 => ?_
      have s2 : Same Hs Hs2 := s1.trans a2.s
      cases eb : F env2 with
      | none => rw [eb] at e1; cases e1
      | some ob =>
        rw [eb] at e1
        refine ⟨H0s, H0, env2, Hs2, ob, Fr2, eb, ?_⟩
        cases ob with
        | nx e3 => exact fun Hs' σ' H' s Fr' => ⟨hlt, e3, Hs', Fr', s2.trans s, e1⟩
        | ct e3 => exact fun Hs' σ' H' s Fr' => ⟨hlt, e3, Hs', Fr', s2.trans s, e1⟩
        | bk e3 =>
          have e4 := Option.some.inj e1
          subst e4
          exact fun Hs' σ' H' s Fr' => q Hs' σ' H' (s2.trans s) Fr'
        | rt u =>
          have e4 := Option.some.inj e1
          subst e4
          exact q
        | x ex e3 =>
          have e4 := Option.some.inj e1
          subst e4
          exact fun cls dd Hs' σ' H' s Fr' rx => q cls dd Hs' σ' H' (s2.trans s) Fr' rx
  · left
    have ei : i = ds.length := by omega
    subst ei
    rw [List.drop_length] at e1
    have e4 := Option.some.inj e1
    subst e4
    exact ⟨w.stop H1 (sb1.trans Fr1.sub), q Hs1 σ1 H1 s1 Fr1⟩
theorem psd_for (hp : PassesOwn (model X.prog X.w) X.A X.env X.xe) (hc : X.calm = true) (hi : PID X W tg a g) (hg : PG X tg (gOf X.K T)) (hb : PSsD X W body F) (hs : ∀ x, foldedSetIterable a X.env x = pure x := by intro _; rfl) : PSD X W (.For tg a body [] pos) (cFor nm g T F) :=
  PS.weak (ps_for hp hc hi hg hb hs) fun D σ H ⟨H0s, H0, env, Hs, o, Fr, e, q⟩ => by
    unfold cFor at e
    cases eg : g (mask nm env) with
    | none => rw [eg] at e; cases e
    | some r =>
      rw [eg] at e
      refine ⟨mask nm env, _, r, Fr.thaw nm, eg, ?_⟩
      cases r with
      | x ex =>
        dsimp only at e
        split at e
        case isFalse => cases e
        case isTrue hx =>
          have e2 := Option.some.inj e
          subst e2
          intro cls dd Hs1 H1 a rx
          obtain ⟨s1, F1, st⟩ := Fr.keep a
          exact q cls dd _ σ H1 s1 F1 (rx.strip st (Fr.keepX a) hx)
      | ok ds fz =>
        intro J Hs1 H1 a w
        cases fz with
        | true =>
          obtain ⟨s1, F1⟩ := Fr.frz a
          exact for_red w F1 (Same.refl _) e (q.up s1)
        | false =>
          obtain ⟨s1, F1, st⟩ := Fr.keep a
          exact for_red w F1 (fun _ _ z => nomatch z) e (q.up s1)
theorem psd_while {t : Expr} (hp : PassesOwn (model X.prog X.w) X.A X.env X.xe) (hc : PTD X W t c) (hb : PSsD X W body F) : PSD X W (.While t body [] pos) (cWhile nm c F) :=
  PS.weak (ps_while hp hc hb) fun D σ H ⟨H0s, H0, env, Hs, o, Fr, e, q⟩ => by
    obtain ⟨n, en⟩ := cWhile_run e
    refine ⟨fun m σ' H' => ∃ env' Hs', FrOk X.K H0s H0 env' Hs' σ' H' ∧ Same Hs Hs' ∧ whGo nm c F m env' = some o, ⟨n, env, Hs, Fr, Same.refl _, en⟩, ?_⟩
    rintro m σ1 H1 ⟨env1, Hs1, Fr1, s1, e1⟩
    cases m with
    | zero => cases e1
    | succ m =>
      unfold whGo at e1
      cases ec : c (mask nm env1) with
      | none => rw [ec] at e1; cases e1
      | some r =>
        rw [ec] at e1
        refine test_rd Fr1 ec (fun ex hr => ?_) (fun b Hs2 H2 hr s2 F2 => ?_)
        · subst hr
          dsimp only at e1
          split at e1
          case isFalse => cases e1
          case isTrue hx =>
            have e2 := Option.some.inj e1
            subst e2
            exact ⟨hx, fun cls dd Hs' σ' H' s Fr' rx => q cls dd Hs' σ' H' (s1.trans s) Fr' rx⟩
        · subst hr
          cases b with
          | false =>
            dsimp only at e1 ⊢
            rw [if_neg Bool.false_ne_true]
            have e2 := Option.some.inj e1
            subst e2
            exact q Hs2 σ1 H2 (s1.trans s2) F2
          | true =>
            dsimp only at e1 ⊢
            rw [if_pos rfl]
            refine ⟨fun σ' H' => ∃ env' Hs', FrOk X.K H0s H0 env' Hs' σ' H' ∧ Same Hs Hs' ∧ whGo nm c F m env' = some o, fun σ' H' z => ⟨m, Nat.lt_succ_self _, z⟩, ?_⟩
            cases eb : F env1 with
            | none => rw [eb] at e1; cases e1
            | some ob =>
              rw [eb] at e1
              refine ⟨H0s, H0, env1, Hs2, ob, F2, eb, ?_⟩
              cases ob with
              | nx e3 => exact fun Hs' σ' H' s Fr' => ⟨e3, Hs', Fr', (s1.trans s2).trans s, e1⟩
              | ct e3 => exact fun Hs' σ' H' s Fr' => ⟨e3, Hs', Fr', (s1.trans s2).trans s, e1⟩
              | bk e3 =>
                have e4 := Option.some.inj e1
                subst e4
                exact fun Hs' σ' H' s Fr' => q Hs' σ' H' ((s1.trans s2).trans s) Fr'
              | rt u =>
                have e4 := Option.some.inj e1
                subst e4
                exact q
              | x ex e3 =>
                have e4 := Option.some.inj e1
                subst e4
                exact fun cls dd Hs' σ' H' s Fr' rx => q cls dd Hs' σ' H' ((s1.trans s2).trans s) Fr' rx
end

/-! ### lists of one's own -/
/-- the slot i is a list of one's own: it is changed -/
def onLst (i : Nat) (env : En) (k : List D → Option (List D)) : Option Out := match env[i]? with
  | some (.own (.lst l)) => (k l).map fun l' => .nx (env.set i (.own (.lst l')))
  | _ => none
def isL (i : Nat) (env : En) : Bool := match env[i]? with
  | some (.own (.lst _)) => true
  | _ => false
def cApp (i : Nat) (nm : List Nat) (f : Ev) : Sm := fun env => if isL i env then evx nm f env fun u env1 => onLst i env1 fun l => if l.length < sizeLine then some (l ++ [u.d]) else none else none
def cExtend (i : Nat) (nm : List Nat) (f : Ev) : Sm := fun env => if isL i env then evx nm f env fun u env1 => match u.d with
  | .lst m => onLst i env1 fun l => if l.length + m.length ≤ sizeLine then some (l ++ m) else none
  | _ => none else none
def cSetIx (i : Nat) (nm : List Nat) (f ix : Ev) : Sm := fun env => evx nm f env fun u env1 => if isL i env1 then evx nm ix env1 fun w env2 => match w.d with
  | .int k => onLst i env2 fun l => (ixN l.length k).map fun j => l.set j u.d
  | _ => none else none
/-- the slot i is a dict of one's own: a key is put -/
def isDk (i : Nat) (env : En) : Bool := match env[i]? with
  | some (.own (.dic _)) => true
  | _ => false
def onDic (i : Nat) (env : En) (k : Key) (d : D) : Option Out := match env[i]? with
  | some (.own (.dic l)) => if l.length < sizeLine then some (.nx (env.set i (.own (.dic (putD l k d))))) else none
  | _ => none
def cPutIx (i : Nat) (nm : List Nat) (f ix : Ev) : Sm := fun env => evx nm f env fun u env1 => if isDk i env1 then evx nm ix env1 fun w env2 => match keyOf w.d with
  | some k => onDic i env2 k u.d
  | none => none else none
/-- x[k] = e: a list, or else a dict -/
def cStore (i : Nat) (nm : List Nat) (f ix : Ev) : Sm := fun env => match cSetIx i nm f ix env with
  | some o => some o
  | none => cPutIx i nm f ix env
def cRev (i : Nat) : Sm := fun env => onLst i env fun l => some l.reverse
def cClr (i : Nat) : Sm := fun env => onLst i env fun _ => some []
section
variable {X : Cx} {W : WX} {K : PySem.W.Frag} {H0s H0 : Hp} {env env' : En} {Hs H Hs1 H1 : Hp} {σ : Sg} {nm : List Nat} {v : V} {d : D} {D' : Ends} {o : Out} {f : Ev} {Q : VK}
  {i j : Nat} {x y : Str} {a b tg : Expr} {pos p ap cp : Pos} {to : TE}
theorem isL_at (Fr : FrOk K H0s H0 env Hs σ H) (h : isL i env = true) : ∃ p xs l, env[i]? = some (Slot.own (.lst l)) ∧ σ[i]? = some (some (V.ref p)) ∧ H p = some (.lst xs) ∧ Reps K Hs xs l := by
  unfold isL at h
  split at h
  · rename_i l ei
    obtain ⟨p, ob, h1, h2, h3, h4, h5⟩ := Fr.own i _ ei
    cases h5 with
    | lst r => exact ⟨p, _, l, ei, h1, h4, r⟩
  · cases h
theorem onLst_at {k : List D → Option (List D)} (Fr : FrOk K H0s H0 env Hs σ H) (e : onLst i env k = some o) (q : endS K W H0s H0 Hs D' o) :
    ∃ p xs l l', σ[i]? = some (some (V.ref p)) ∧ H p = some (.lst xs) ∧ Reps K Hs xs l ∧ k l = some l' ∧ ∀ xs', Reps K Hs xs' l' → D'.nx σ (upd H p (.lst xs')) := by
  unfold onLst at e
  split at e
  · rename_i l ei
    obtain ⟨p, ob, h1, h2, h3, h4, h5⟩ := Fr.own i _ ei
    cases h5 with
    | lst r =>
      cases ek : k l with
      | none => rw [ek] at e; cases e
      | some l' =>
        rw [ek] at e
        have e2 := Option.some.inj e
        subst e2
        exact ⟨p, _, l, l', h1, h4, r, ek, fun xs' r' => q Hs σ _ (Same.refl _) (Fr.mut ei h1 (.lst r'))⟩
  · cases e
/-- one argument -/
theorem evx1 {k : Vn → En → Option Out} {Q1 : List V → Hp → Prop} (Fr : FrOk K H0s H0 env Hs σ H) (e : evx nm f env k = some o) (q : endS K W H0s H0 Hs D' o)
    (hk : ∀ v u env1 Hs1 H1, Same Hs Hs1 → FrOk K H0s H0 env1 Hs1 σ H1 → Rep K Hs1 v u.d → k u env1 = some o → endS K W H0s H0 Hs1 D' o → Q1 [v] H1) : tCons (rdE K W f) tNil σ H Q1 :=
  evx_ok Fr e q fun v u env1 Hs1 H1 s1 F1 gt e1 q1 => by
    obtain ⟨Hs2, s2, F2, r2⟩ := gt.share F1
    exact hk v u env1 Hs2 H1 (s1.trans s2) F2 r2 e1 (q1.up s2)
theorem tyL {p : Addr} {xs : List V} (h : H p = some (.lst xs)) : tyV K "list" (.ref p) H := .inl ⟨rfl, _, SqL.of h⟩
theorem psd_app (hm : PE X a (tBM X.K "list" rAppend (tVar i) (tCons (rdE X.K W f) tNil))) (hs : swapsWith a none pos.line X.env = pure false := by rfl) : PSD X W (.Expr a pos) (cApp i nm f) :=
  PS.weak (ps_expr hm hs) fun D σ H ⟨H0s, H0, env, Hs, o, Fr, e, q⟩ => by
    unfold cApp at e
    split at e
    case isFalse => cases e
    case isTrue hl =>
      obtain ⟨p, xs, l, h1, h2, h3, h4⟩ := isL_at Fr hl
      refine ⟨_, h2, tyL h3, evx1 Fr e q fun v u env1 Hs1 H1 s1 F1 r1 e1 q1 => ?_⟩
      obtain ⟨p', xs', l1, l2, g1, g2, g3, g4, g5⟩ := onLst_at F1 e1 q1
      rw [h2] at g1
      cases g1
      split at g4
      · have g6 := Option.some.inj g4
        subst g6
        exact ⟨p, xs', v, rfl, rfl, g2, by rw [g3.length]; assumption, g5 _ (g3.append (.cons r1 .nil))⟩
      · cases g4
theorem psd_extend (hm : PE X a (tBM X.K "list" rExtend (tVar i) (tCons (rdE X.K W f) tNil))) (hs : swapsWith a none pos.line X.env = pure false := by rfl) : PSD X W (.Expr a pos) (cExtend i nm f) :=
  PS.weak (ps_expr hm hs) fun D σ H ⟨H0s, H0, env, Hs, o, Fr, e, q⟩ => by
    unfold cExtend at e
    split at e
    case isFalse => cases e
    case isTrue hl =>
      obtain ⟨p, xs, l, h1, h2, h3, h4⟩ := isL_at Fr hl
      refine ⟨_, h2, tyL h3, evx1 Fr e q fun v u env1 Hs1 H1 s1 F1 r1 e1 q1 => ?_⟩
      split at e1
      · rename_i m eu
        rw [eu] at r1
        obtain ⟨p', xs', l1, l2, g1, g2, g3, g4, g5⟩ := onLst_at F1 e1 q1
        rw [h2] at g1
        cases g1
        cases r1 with
        | lst z1 z2 =>
          split at g4
          · have g6 := Option.some.inj g4
            subst g6
            exact ⟨p, _, xs', _, rfl, rfl, g2, F1.sub _ _ z1, by rw [g3.length, z2.length]; assumption, g5 _ (g3.append z2)⟩
          · cases g4
      · cases e1
theorem psd_rev (hm : PE X a (tBM0 X.K "list" rReverse (tVar i))) (hs : swapsWith a none pos.line X.env = pure false := by rfl) : PSD X W (.Expr a pos) (cRev i) :=
  PS.weak (ps_expr hm hs) fun D σ H ⟨H0s, H0, env, Hs, o, Fr, e, q⟩ => by
    obtain ⟨p', xs', l1, l2, g1, g2, g3, g4, g5⟩ := onLst_at Fr e q
    have g6 := Option.some.inj g4
    subst g6
    exact ⟨_, g1, tyL g2, p', xs', rfl, rfl, g2, g5 _ g3.rev⟩
theorem psd_clr (hm : PE X a (tBM0 X.K "list" rClear (tVar i))) (hs : swapsWith a none pos.line X.env = pure false := by rfl) : PSD X W (.Expr a pos) (cClr i) :=
  PS.weak (ps_expr hm hs) fun D σ H ⟨H0s, H0, env, Hs, o, Fr, e, q⟩ => by
    obtain ⟨p', xs', l1, l2, g1, g2, g3, g4, g5⟩ := onLst_at Fr e q
    have g6 := Option.some.inj g4
    subst g6
    exact ⟨_, g1, tyL g2, p', xs', rfl, rfl, g2, g5 _ .nil⟩
/-- x[k] = e -/
theorem psd_setIx {ix : Ev} {k : Expr} {tp : Pos} (he : PD X W a f) (hv : PE X b (tVar i)) (hi : PD X W k ix) (hg : PG X (.Subscript b k tp) (gSub (tVar i) (rdE X.K W ix) rSetL))
    (hs : swapsWithSole [.Subscript b k tp] a pos.line X.env = pure false := by rfl) (hw : swappedStores [.Subscript b k tp] a X.env = pure none := by rfl)
    (h1 : (assignEach [.Subscript b k tp] X.env).map (·.2) = [assign (.Subscript b k tp) X.env] := by rfl) : PSD X W (.Assign [.Subscript b k tp] a pos) (cSetIx i nm f ix) :=
  PS.weak (ps_asg he hg hs hw h1) fun D σ H ⟨H0s, H0, env, Hs, o, Fr, e, q⟩ =>
    evx_ok Fr e q fun v u env1 Hs1 H1 s1 F1 gt e1 q1 => by
      split at e1
      case isFalse => cases e1
      case isTrue hl =>
        obtain ⟨p, xs, l, h1, h2, h3, h4⟩ := isL_at F1 hl
        obtain ⟨Hs2, s2, F2, r2⟩ := gt.share F1
        refine ⟨_, h2, evx_ok F2 e1 (q1.up s2) fun w z env2 Hs3 H3 s3 F3 gt3 e3 q3 => ?_⟩
        obtain ⟨Hs4, s4, F4, r4⟩ := gt3.share F3
        split at e3
        · rename_i kk ek
          rw [ek] at r4
          cases r4
          obtain ⟨p', xs', l1, l2, g1, g2, g3, g4, g5⟩ := onLst_at F4 e3 (q3.up s4)
          rw [h2] at g1
          cases g1
          cases ej : ixN l1.length kk with
          | none => rw [ej] at g4; cases g4
          | some j =>
            rw [ej] at g4
            have g6 := Option.some.inj g4
            subst g6
            exact ⟨p, xs', kk, j, rfl, rfl, g2, by rw [g3.length]; exact ej, g5 _ (Reps.set ((r2.mono s3).mono s4) j g3)⟩
        · cases e3
theorem isDk_at (Fr : FrOk K H0s H0 env Hs σ H) (h : isDk i env = true) : ∃ p kvs l, env[i]? = some (Slot.own (.dic l)) ∧ σ[i]? = some (some (V.ref p)) ∧ H p = some (.dK kvs) ∧ RepK K Hs kvs l := by
  unfold isDk at h
  split at h
  · rename_i l ei
    obtain ⟨p, ob, h1, h2, h3, h4, h5⟩ := Fr.own i _ ei
    cases h5 with
    | dic r => exact ⟨p, _, l, ei, h1, h4, r⟩
  · cases h
theorem onDic_at {k : Key} (Fr : FrOk K H0s H0 env Hs σ H) (e : onDic i env k d = some o) (q : endS K W H0s H0 Hs D' o) :
    ∃ p kvs l, σ[i]? = some (some (V.ref p)) ∧ H p = some (.dK kvs) ∧ kvs.length < sizeLine ∧ RepK K Hs kvs l ∧ ∀ v, Rep K Hs v d → D'.nx σ (upd H p (.dK (putK kvs k v))) := by
  unfold onDic at e
  split at e
  · rename_i l ei
    obtain ⟨p, ob, h1, h2, h3, h4, h5⟩ := Fr.own i _ ei
    cases h5 with
    | dic r =>
      split at e
      · rename_i hl
        have e2 := Option.some.inj e
        subst e2
        exact ⟨p, _, l, h1, h4, by rw [r.length]; exact hl, r, fun v r' => q Hs σ _ (Same.refl _) (Fr.mut ei h1 (.dic (r.put r')))⟩
      · cases e
  · cases e
theorem PSet.or {r r' : TSet} (h : PSet X r) (h' : PSet X r') : PSet X (fun o i v H Q => r o i v H Q ∨ r' o i v H Q) :=
  fun pins s σ H o i v ov iv u Q I ro ri rv q => q.elim (h pins s σ H o i v ov iv u Q I ro ri rv) (h' pins s σ H o i v ov iv u Q I ro ri rv)
def rStore : TSet := fun o i v H Q => rSetL o i v H Q ∨ rSetD o i v H Q
theorem set_store (hu : X.A.units + 1 < cLine) : PSet X rStore := PSet.or set_list (set_dict hu)
theorem psd_store {ix : Ev} {k : Expr} {tp : Pos} (he : PD X W a f) (hv : PE X b (tVar i)) (hi : PD X W k ix) (hg : PG X (.Subscript b k tp) (gSub (tVar i) (rdE X.K W ix) rStore))
    (hs : swapsWithSole [.Subscript b k tp] a pos.line X.env = pure false := by rfl) (hw : swappedStores [.Subscript b k tp] a X.env = pure none := by rfl)
    (h1 : (assignEach [.Subscript b k tp] X.env).map (·.2) = [assign (.Subscript b k tp) X.env] := by rfl) : PSD X W (.Assign [.Subscript b k tp] a pos) (cStore i nm f ix) :=
  PS.weak (ps_asg he hg hs hw h1) fun D σ H ⟨H0s, H0, env, Hs, o, Fr, e, q⟩ => by
    unfold cStore at e
    split at e
    · rename_i o1 ee
      have e2 := Option.some.inj e
      subst e2
      refine evx_ok Fr ee q fun v u env1 Hs1 H1 s1 F1 gt e1 q1 => ?_
      split at e1
      case isFalse => cases e1
      case isTrue hl =>
        obtain ⟨p, xs, l, h1, h2, h3, h4⟩ := isL_at F1 hl
        obtain ⟨Hs2, s2, F2, r2⟩ := gt.share F1
        refine ⟨_, h2, evx_ok F2 e1 (q1.up s2) fun w z env2 Hs3 H3 s3 F3 gt3 e3 q3 => ?_⟩
        obtain ⟨Hs4, s4, F4, r4⟩ := gt3.share F3
        split at e3
        · rename_i kk ek
          rw [ek] at r4
          cases r4
          obtain ⟨p', xs', l1, l2, g1, g2, g3, g4, g5⟩ := onLst_at F4 e3 (q3.up s4)
          rw [h2] at g1
          cases g1
          cases ej : ixN l1.length kk with
          | none => rw [ej] at g4; cases g4
          | some j =>
            rw [ej] at g4
            have g6 := Option.some.inj g4
            subst g6
            exact .inl ⟨p, xs', kk, j, rfl, rfl, g2, by rw [g3.length]; exact ej, g5 _ (Reps.set ((r2.mono s3).mono s4) j g3)⟩
        · cases e3
    · refine evx_ok Fr e q fun v u env1 Hs1 H1 s1 F1 gt e1 q1 => ?_
      split at e1
      case isFalse => cases e1
      case isTrue hl =>
        obtain ⟨p, kvs, l, h1, h2, h3, h4⟩ := isDk_at F1 hl
        obtain ⟨Hs2, s2, F2, r2⟩ := gt.share F1
        refine ⟨_, h2, evx_ok F2 e1 (q1.up s2) fun w z env2 Hs3 H3 s3 F3 gt3 e3 q3 => ?_⟩
        obtain ⟨Hs4, s4, F4, r4⟩ := gt3.share F3
        split at e3
        · rename_i kk ek
          obtain ⟨p', kvs', l1, g1, g2, g3, g4, g5⟩ := onDic_at F4 e3 (q3.up s4)
          rw [h2] at g1
          cases g1
          exact .inr ⟨p, _, rfl, .inl ⟨kvs', kk, g2, keyOf_rep ek r4, g3, rfl⟩, g5 _ ((r2.mono s3).mono s4)⟩
        · cases e3
end

/-! ### a def by its function -/
def envOf (n : Nat) (ds : List D) : En := ds.map Slot.sh ++ List.replicate (n - ds.length) .un
/-- the function of a body: np parameters, n names -/
def runB (np n : Nat) (F : Sm) (ds : List D) : Option Rs := if ds.length = np then match F (envOf n ds) with
  | some (.rt u) => some u.r
  | some (.nx _) => some (.v .non)
  | some (.x e _) => some (.x e)
  | _ => none else none
section
variable {P : Program} {w : World} {K : PySem.W.Frag} {mg : Str → Option Value} {base : Heap} {x qual : Str} {params : Arguments} {body : List Stmt} {scope : Scope} {f : Addr} {fd : FuncData} {N ps : List Str} {k np n : Nat} {F : Sm}
theorem envOf_start {Hs H : Hp} {vs : List V} {ds : List D} (s : Same Hs H) (r : Reps K Hs vs ds) (n : Nat) (hN : N.length = n) : FrOk K Hs H (envOf n ds) Hs (start N vs) H := by
  have len : (envOf n ds).length = (start N vs).length := by
    unfold envOf L2.start
    rw [List.length_append, List.length_append, List.length_map, List.length_map, List.length_replicate, List.length_replicate, r.length, hN]
  have noown : ∀ (i : Nat) (d : D), (envOf n ds)[i]? ≠ some (Slot.own d) := fun i d e => by
    have hm := List.mem_of_getElem? e
    unfold envOf at hm
    rcases List.mem_append.mp hm with z | z
    · obtain ⟨_, _, z2⟩ := List.mem_map.mp z
      cases z2
    · have := List.eq_of_mem_replicate z
      cases this
  refine ⟨Ext.refl s, len, fun i d e => ?_, fun i d e => absurd e (noown i d), fun i j d d' p e => absurd e (noown i d)⟩
  unfold envOf at e
  by_cases hi : i < ds.length
  · rw [List.getElem?_append_left (by rw [List.length_map]; exact hi), List.getElem?_map] at e
    cases ed : ds[i]? with
    | none => rw [ed] at e; cases e
    | some d' =>
      rw [ed] at e
      have e2 : d' = d := Slot.sh.inj (Option.some.inj e)
      subst e2
      obtain ⟨v, h1, h2⟩ := r.get ed
      refine ⟨v, ?_, h2⟩
      unfold L2.start
      rw [List.getElem?_append_left (by rw [List.length_map, r.length]; exact hi), List.getElem?_map, h1]
      rfl
  · have hm := List.mem_of_getElem? e
    rw [List.getElem?_append_right (by rw [List.length_map]; omega)] at e
    have := List.eq_of_mem_replicate (List.mem_of_getElem? e)
    cases this
theorem fn_ok (Fd : FunD K x qual params body scope [] [] f fd) (S : FnScope N ps scope) (hN : N.length = n) (hp : ps.length = np)
    (hb : ∀ (cdv : Value) (A : Around) (outer : List Env) (s : Shared) (H : Hp) (E : XK), Room k (A.deeper (envOfC qual scope s.heap.objs.size f cdv)) →
      PSsD (cxOf (L2.CX P w) P w K mg base N qual scope f cdv A outer s H E) (fun cls dd _ H' => E cls dd H') body F) : FnOk P w K mg base (L2.CX P w) (k + 1) f fd ps (spD K (runB np n F)) := by
  refine Fd.ok S (fun vs H Q E ⟨Hs, ds, r, s, rp, e, _⟩ => ?_) fun cdv A outer s H vs Q E hr ⟨Hs, ds, r, sm, rp, e, q⟩ => ⟨_, hb cdv A outer s H E hr, ?_⟩
  · unfold runB at e
    split at e
    · rw [rp.length, hp]; assumption
    · cases e
  · unfold runB at e
    split at e
    case isFalse => cases e
    case isTrue hl =>
      cases ef : F (envOf n ds) with
      | none => rw [ef] at e; cases e
      | some o =>
        rw [ef] at e
        refine ⟨Hs, H, envOf n ds, Hs, o, envOf_start sm rp n hN, ef, ?_⟩
        cases o with
        | nx e1 =>
          have e2 := Option.some.inj e
          subst e2
          exact fun Hs' σ' H' s Fr => q _ Hs' H' Fr.ext .non
        | rt u =>
          have e2 := Option.some.inj e
          subst e2
          exact endV.r q
        | x ex e1 =>
          have e2 := Option.some.inj e
          subst e2
          exact fun cls dd Hs' σ' H' s Fr rx => q cls dd Hs' H' Fr.ext rx
        | bk e1 => cases e
        | ct e1 => cases e
end
end HD

set_option Elab.async false
set_option linter.all false
set_option maxRecDepth 100000
set_option maxHeartbeats 4000000
/-! HDh: isinstance; the free built-ins; the end. -/
namespace HD
open PySem PySem.Spec PyProof.Rows L2

/-! ### isinstance of built-in types -/
def isIntD : D → Option Bool
  | .int _ | .bl _ => some true
  | .non | .str _ | .tup _ | .lst _ | .dic _ => some false
  | _ => none
def isBoolD : D → Option Bool
  | .bl _ => some true
  | .int _ | .non | .str _ | .tup _ | .lst _ | .dic _ => some false
  | _ => none
def isTupD : D → Option Bool
  | .tup _ => some true
  | .int _ | .bl _ | .non | .str _ | .lst _ | .dic _ => some false
  | _ => none
def isLstD : D → Option Bool
  | .lst _ => some true
  | .int _ | .bl _ | .non | .str _ | .tup _ | .dic _ => some false
  | _ => none
def isStrD : D → Option Bool
  | .str _ => some true
  | .int _ | .bl _ | .non | .lst _ | .tup _ | .dic _ => some false
  | _ => none
def tyN : D → String
  | .int _ => "int" | .bl _ => "bool" | .non => "NoneType" | .str _ => "str" | .tup _ => "tuple" | .lst _ => "list" | .dic _ => "dict" | _ => ""
def cIs (g : D → Option Bool) (f : Ev) : Ev := fun env => bindR (f env) fun d => (g d).map fun b => .v (.bl b)
/-- g tells isinstance(_, T) -/
def IsT (T : String) (g : D → Option Bool) : Prop := ∀ d b, g d = some b → (∃ i, d = .int i) ∨ (∃ i, d = .bl i) ∨ d = .non ∨ (∃ i, d = .str i) ∨ (∃ i, d = .tup i) ∨ (∃ i, d = .lst i) ∧ True
section
variable {X : Cx} {W : WX} {a : Expr} {f : Ev} {x : Str} {p q pos : Pos} {T : String} {g : D → Option Bool}
theorem Rep.tyX {K : PySem.W.Frag} {H : Hp} {v : V} {d : D} (r : Rep K H v d) (h : tyN d ≠ "") : TyX K H v (.type (tyN d)) := by
  cases r with
  | non => exact .base .non
  | bl b => exact .base (.bl b)
  | int i => exact .base (.int i)
  | str x => exact .base (.str x)
  | lst h1 r1 => exact .base (.lst h1)
  | tup h1 r1 =>
    rcases h1 with h1 | ⟨_, o, its, n, h1, h2, _⟩
    · exact .base (.tup h1)
    · exact .kTuple h1 h2
  | scr h1 r1 => exact absurd rfl h
  | ins h1 r1 => exact absurd rfl h
  | exn h1 r1 => exact absurd rfl h
  | dic h1 r1 => exact .base (.dK h1)
  | dit h1 r1 => exact absurd rfl h
theorem pd_is (hT : ∀ d b, g d = some b → tyN d ≠ "" ∧ kitB (tyN d) T = some b) (hg : Gl X "isinstance") (hm : X.mg "isinstance" = none) (hg2 : Gl X x) (hm2 : X.mg x = none) (hv : bootBuiltins x = some (.type T)) (hn : x ≠ "__name__") (hdb : (x == ("__debug__" : Str)) = false) (ha : PD X W a f)
    (he : starEach [a, .Name x q] X.env = (false, eval a X.env) :: starEach [.Name x q] X.env := by rfl) (he2 : starEach [.Name x q] X.env = (false, eval (.Name x q) X.env) :: starEach [] X.env := by rfl) (hpl : (backTo pos (starEach [.Name x q] X.env)).any (·.1) = false := by rfl) :
    PD X W (.Call (.Name "isinstance" p) [a, .Name x q] [] pos) (cIs g f) :=
  pd_of (pe_callB call_isi hg hm (by decide +kernel) (pa_cons ha (pa_cons (pe_bltn (v := .ty T) hg2 hm2 hv rfl hn hdb) pa_nil he2) he) (by decide +kernel) (by decide +kernel) he hpl) fun σ H Q env Hs r F e q => rd_bind F e q fun v d Hs1 H1 a1 F1 r1 e1 q1 => by
    cases eg : g d with
    | none => rw [eg] at e1; cases e1
    | some b =>
      rw [eg] at e1
      have e2 := Option.some.inj e1
      subst e2
      obtain ⟨h1, h2⟩ := hT d b eg
      exact ⟨v, .ty T, _, _, b, rfl, .ty T, (r1.mono F1.sub).tyX h1, kit_ty h2, endV.here F1.sub q1 (.bl b)⟩
end
theorem is_int : ∀ d b, isIntD d = some b → tyN d ≠ "" ∧ kitB (tyN d) "int" = some b := fun d b h => by
  cases d <;> first
    | (cases h; done)
    | (have e := Option.some.inj h; subst e; exact ⟨by simp [tyN], by simp only [tyN]; decide +kernel⟩)
theorem is_bool : ∀ d b, isBoolD d = some b → tyN d ≠ "" ∧ kitB (tyN d) "bool" = some b := fun d b h => by
  cases d <;> first
    | (cases h; done)
    | (have e := Option.some.inj h; subst e; exact ⟨by simp [tyN], by simp only [tyN]; decide +kernel⟩)
theorem is_tup : ∀ d b, isTupD d = some b → tyN d ≠ "" ∧ kitB (tyN d) "tuple" = some b := fun d b h => by
  cases d <;> first
    | (cases h; done)
    | (have e := Option.some.inj h; subst e; exact ⟨by simp [tyN], by simp only [tyN]; decide +kernel⟩)
theorem is_lst : ∀ d b, isLstD d = some b → tyN d ≠ "" ∧ kitB (tyN d) "list" = some b := fun d b h => by
  cases d <;> first
    | (cases h; done)
    | (have e := Option.some.inj h; subst e; exact ⟨by simp [tyN], by simp only [tyN]; decide +kernel⟩)
theorem is_str : ∀ d b, isStrD d = some b → tyN d ≠ "" ∧ kitB (tyN d) "str" = some b := fun d b h => by
  cases d <;> first
    | (cases h; done)
    | (have e := Option.some.inj h; subst e; exact ⟨by simp [tyN], by simp only [tyN]; decide +kernel⟩)

/-! ### the built-ins that stay free -/
def frees : List Str := ["len", "range", "zip", "enumerate", "reversed", "sorted", "sum", "all", "any", "abs", "min", "max", "divmod", "tuple", "list", "int", "str", "bool", "set", "isinstance", "dict"]
def Gs (mg : Str → Option Value) : Prop := ∀ x ∈ frees, mg x = none
theorem Gs.at {mg : Str → Option Value} (g : Gs mg) (i : Nat) {x : Str} (h : frees[i]? = some x := by rfl) : mg x = none := g x (List.mem_of_getElem? h)
theorem bt_len : bootBuiltins "len" = some (.builtin "len") := by decide +kernel
theorem bt_sum : bootBuiltins "sum" = some (.builtin "sum") := by decide +kernel
theorem bt_all : bootBuiltins "all" = some (.builtin "all") := by decide +kernel
theorem bt_any : bootBuiltins "any" = some (.builtin "any") := by decide +kernel
theorem bt_abs : bootBuiltins "abs" = some (.builtin "abs") := by decide +kernel
theorem bt_min : bootBuiltins "min" = some (.builtin "min") := by decide +kernel
theorem bt_max : bootBuiltins "max" = some (.builtin "max") := by decide +kernel
theorem bt_divmod : bootBuiltins "divmod" = some (.builtin "divmod") := by decide +kernel
theorem bt_sorted : bootBuiltins "sorted" = some (.builtin "sorted") := by decide +kernel
theorem bt_tuple : bootBuiltins "tuple" = some (.type "tuple") := by decide +kernel
theorem bt_list : bootBuiltins "list" = some (.type "list") := by decide +kernel
theorem bt_int : bootBuiltins "int" = some (.type "int") := by decide +kernel
theorem bt_bool : bootBuiltins "bool" = some (.type "bool") := by decide +kernel
theorem bt_str : bootBuiltins "str" = some (.type "str") := by decide +kernel

/-- a constant of the module -/
def Cn (mg : Str → Option Value) (K : PySem.W.Frag) (x : Str) (d : D) : Prop := ∃ u v, mg x = some u ∧ RelV v u ∧ ∀ H, Rep K H v d
theorem pd_cn {X : Cx} {W : WX} {x : Str} {d : D} {pos : Pos} (c : Cn X.mg X.K x d) (hg : Gl X x) (hd : (x == ("__debug__" : Str)) = false := by decide) : PD X W (.Name x pos) (cC d) := by
  obtain ⟨u, v, hm, r, rp⟩ := c
  exact pd_glob hg hm r rp hd
theorem cn_int {mg : Str → Option Value} {K : PySem.W.Frag} {x : Str} {i : Int} (h : ∃ t, mg x = some (.int i t)) : Cn mg K x (.int i) := by
  obtain ⟨t, e⟩ := h
  exact ⟨_, .int i, e, ⟨t, rfl⟩, fun _ => .int i⟩
theorem cn_str {mg : Str → Option Value} {K : PySem.W.Frag} {x z : Str} (h : ∃ t, mg x = some (.str z t)) : Cn mg K x (.str z) := by
  obtain ⟨t, e⟩ := h
  exact ⟨_, .str z, e, ⟨t, rfl⟩, fun _ => .str z⟩
theorem _root_.L2.Room.u1 {k : Nat} {A : Around} (r : Room k A) : A.units + 1 < cLine := by have := r.un; omega
theorem _root_.L2.Room.u65 {k : Nat} {A : Around} (r : Room k A) : A.units + 65 < cLine := by have := r.un; omega

/-! ### the end -/
theorem mkDn {P : Program} {w : World} {K : PySem.W.Frag} {mg : Str → Option Value} {base : Heap} {x : Str} {k : Nat} {φ : List D → Option Rs} {f : Addr} {fd : FuncData} {ps : List Str} {params : Arguments} {body : List Stmt} {scope : Scope}
    (F : FunD K x x params body scope [] [] f fd) (ok : FnOk P w K mg base (L2.CX P w) k f fd ps (spD K φ)) (gm : mg x = some (.ref f))
    (hb : ∀ (kV doc pm : Value) (an : Option Addr) (cdv ct : Value) (us : List Value), us.length = ps.length → bindArgs (PySem.W.fnOf x x params body scope .none kV doc pm an cdv ct) ⟨us, []⟩ = pure (ps.zip us)) : Dn P w K mg base x k φ :=
  ⟨f, fd, ps, ok, gm, F.kp, F.bindsN hb⟩
/-- a law's function at a script is True -/
def Keeps (φ : List D → Option Rs) : Prop := ∀ ns : List Int, ns.length ≤ 63 → (∀ z ∈ ns, Builtin.Int.intBits z ≤ 1048576) → φ [.scr (ns.map .int)] = some (.v (.bl true))
theorem reps_ints (K : PySem.W.Frag) (H : Hp) : ∀ ns : List Int, Reps K H (ns.map V.int) (ns.map D.int)
  | [] => .nil
  | n :: ns => .cons (.int n) (reps_ints K H ns)
theorem walk_D {l : PySem.W.OpenLaw} {k : Nat} {q : Program} {loose : List Str} {XP : (Str → Option Value) → Heap → Prop} {YP : World → Heap → Prop} {d : DefRec} {x : Str} {φ : List D → Option Rs}
    (hn : l.most = some 63) (hdf : d.params.defaults = []) (hr : Room k callerA) (hφ : Keeps φ)
    (F : ∀ (w : World) (mg : Str → Option Value) (fa : Addr) (h : Heap), YP w h → h.Ns mainGlobals mg → mg d.name = some (.ref fa) →
      ∃ (K : PySem.W.Frag) (fd : FuncData), K.In h ∧ (∀ (s : Shared) (u : Value), BindsTo s fd ⟨[u], []⟩ [(x, u)]) ∧
        ∀ base : Heap, K.In base → base.Ns mainGlobals mg → FnOk l.prog w K mg base (L2.CX l.prog w) k fa fd [x] (spD K φ)) :
    PySem.W.WalkO q loose XP YP l.row.toRowW d [] (fun f vs => PySem.call f vs) :=
  Att.attach_callB hn hdf fun w s₀ s₁ mg mb fa o pm cd doc a vs ns G Y ho hd hcd hmg hobj hints hlen hbits hg => by
    obtain ⟨K, fd, KX, hb, hF⟩ := F w mg fa _ Y G.T.g hmg
    refine law_call KX G.T.g G.T.b G.T.builtins G.T.nolimit hg hobj hints (Nat.le_trans hlen (by decide)) hr hF hb (fun H hO hS => ?_) fun H e s' hx => ?_
    · refine ⟨H, [.scr (ns.map .int)], _, Same.refl _, .cons (.scr hS (reps_ints K H ns)) .nil, hφ ns hlen hbits, fun v Hs' H' _ r => ?_⟩
      cases r
      rfl
    · obtain ⟨_, _, _, _, _, _, _, _, _, _, _, _, z⟩ := hx
      exact z.elim
/-- the hook: the facts fa, the defs fn, a check of one's own -/
abbrev hookH (fa : List He.Fa) (fn : List He.DefD) (ex : PySem.W.Frag → Bool) : PySem.W.Hook := He.hookX 4 fa fn [] [] ex
end HD

set_option Elab.async false
set_option linter.all false
set_option maxRecDepth 100000
set_option maxHeartbeats 4000000
/-! HDi: enumerate(tuple), any, len(set(ints)), divmod, max. -/
namespace HD
open PySem PySem.Spec PyProof.Rows L2

/-! ### enumerate of a tuple -/
/-- what enumerate lays beside the iterator at p -/
def enObj (p : Addr) : Obj := { cls := .type "enumerate", data := .fields #[.none, .bool false, .ref p, rawInt 0, .none, .none] }
theorem new_enumB {v : Value} {o : Obj} {Hc : Heap → Prop} (B : Begins v o Hc) :
    Meets (Builtin.«enumerate.__new__» ⟨[.type "enumerate", v], []⟩) (fun _ R s => Hc s.heap ∧ R (.ok (.ret (.ref (s.heap.push o).objs.size))) { s with heap := (s.heap.push o).push (enObj s.heap.objs.size) }) :=
  .of_wp fun prog w A R ⟨hp, gn, dr, tk, oz⟩ ⟨h0, h1⟩ => by
    have sb := sub_enumerate
    have it1 : ∀ {A' : Around} {E' : Value → Shared → Prop} {Q' : Value → Shared → Prop}, Q' (.ref hp.objs.size) ⟨hp.push o, gn, dr, tk, oz⟩ → wpAny (model prog w) A' (pyIter v) Q' E' ⟨hp, gn, dr, tk, oz⟩ :=
      fun {A' E' Q'} => B.iter prog w A' E' ⟨hp, gn, dr, tk, oz⟩ Q' h0
    wp_walk using it1
    apply wpAny_stack_any
    intro _
    apply wpAny_pure
    split
    all_goals first
      | (wp_walk using it1; exact ⟨_, rfl, h1⟩)
      | (rename_i c0 _ _ _ _ _; generalize (c0 == Value.type "enumerate") = z; cases z <;> (wp_walk using it1; exact ⟨_, rfl, h1⟩))
theorem call_enumB {prog : Program} {w : World} {A : Around} {E : Value → Shared → Prop} {s : Shared} {v : Value} {o : Obj} {Hc : Heap → Prop} {Q : Value → Shared → Prop} (B : Begins v o Hc) (h0 : Hc s.heap)
    (h : ∀ g, g.get? s.heap.objs.size = some o → IsEnum g (s.heap.objs.size + 1) s.heap.objs.size 0 .none → (∀ b x, s.heap.get? b = some x → g.get? b = some x) → Q (.ref (s.heap.objs.size + 1)) { s with heap := g }) :
    wpAny (model prog w) A (call (.type "enumerate") [v]) Q E s := by
  have sz : (s.heap.push o).objs.size = s.heap.objs.size + 1 := Heap.size_push ..
  have at1 : ((s.heap.push o).push (enObj s.heap.objs.size)).get? (s.heap.objs.size + 1) = some (enObj s.heap.objs.size) := sz ▸ Heap.get?_push_size _ rfl
  apply callType_new F.called_enumerate (by decide) (F.typeCall_enumerate_1 _) (F.newCall_enumerate_1 _) (fun obj => F.args_object_init_2 obj _) F.entry_enumerate_new (new_enumB B)
  refine ⟨h0, ?_⟩
  show _ ∧ _
  rw [sz]
  exact ⟨⟨_, at1, rfl⟩, h _ (Heap.get?_push_of_some _ (Heap.get?_push_size _ B.free)) at1 fun b x z => Heap.get?_push_of_some _ (Heap.get?_push_of_some _ z)⟩
/-- the tuple at a, each item in a new pair -/
def IteT (K : PySem.W.Frag) (a : Addr) : It :=
  ⟨fun i H => ∃ (xs : List V) (x : V), SqT K H a xs ∧ xs[i]? = some x, fun i H v H' => ∃ T x, v = .ref T ∧ H T = none ∧ H' = upd H T (.tup [.int (i : Nat), x]) ∧ ∀ xs, SqT K H a xs → xs[i]? = some x, fun i H => ∃ xs : List V, SqT K H a xs ∧ xs.length = i⟩
/-- e goes through the tuple at a by the iterator p: i items are behind it -/
def EnAt (a e p : Addr) (i : Nat) (h : Heap) : Prop := (∃ old, IsEnum h e p ((i : Nat) : Int) old) ∧ h.IsTupleIter p a i ∧ e ≠ p ∧ a ≠ p ∧ e ≠ a
theorem turn_enumT {P : Program} {w : World} {K : PySem.W.Frag} {elts : List Expr} {kk : Nat} {tpos : Pos} (a e p : Addr) : Turn P w K (.Tuple elts kk tpos) (IteT K a) [e, p] e (EnAt a e p) where
  mem := .head _
  obj := fun _ _ ⟨⟨_, z⟩, ⟨_, y, _, d⟩, _⟩ => List.forall_mem_cons.2 ⟨⟨_, z, fun _ q => nomatch q⟩, List.forall_mem_cons.2 ⟨⟨_, y, fun _ q => by rw [d] at q; cases q⟩, fun _ q => nomatch q⟩⟩
  keep := fun _ _ _ ⟨⟨old, z⟩, y, r⟩ k => ⟨⟨old, k _ (.head _) _ z⟩, y.at (k _ (.tail _ (.head _))), r⟩
  item := fun X hP hw hK hc i pins s σ H E I hf ⟨en, ti, n1, n2, n3⟩ ⟨xs, x, hq, hx⟩ => by
    subst hP hw hK
    obtain ⟨its, rv, tup, _⟩ := I.tuple hq
    obtain ⟨u, hu, ru⟩ := rv.get hx
    have W := WalksT.enumerateD (prog := X.prog) (w := X.w) (A := X.A) (Draws.tuple (A := X.A.in1) (I.ok.hd hc) p a n2 its.toArray) e n1 (by simp [n1, n3]) (by simp)
    refine W.item i s _ E (by rw [List.size_toArray]; exact (List.getElem?_eq_some_iff.mp hu).1) ⟨en, ti, tup⟩ fun T vals h' tk pt hT lies mid keep => ⟨_, rfl, W.go elts kk tpos i T _ _ E mid fun h'' st2 keep2 => ?_⟩
    obtain ⟨t, y, hy, ev⟩ := pt
    have ey : some y = some u := hy.symm.trans (by simpa using hu)
    have away := W.apart i T _ mid
    have I2 := I.turnedNew (t' := tk) (h' := h'') (ch := [e, p]) (T := T) (ob := .tup [.int (i : Nat), x]) (fun b o hb q => keep2 b o hb (keep b o hb q)) hf hT
      ⟨by show 2 ≤ sizeLine; decide, [.int i t, u], .cons ⟨_, rfl⟩ (.cons ru .nil), by
        obtain ⟨o, g, r⟩ := lies
        rw [ev, Option.some.inj ey] at r
        exact ⟨o, keep2 T o away g, r⟩⟩
    exact ⟨.ref T, _, I2, rfl, ⟨T, x, rfl, I.hok.fresh hT, rfl, fun ys hy => (I.tuple_inj hy hq).symm ▸ hx⟩, ⟨st2.1, st2.2.1, n1, n2, n3⟩, fun b hb => (upd_ne (show b ≠ T from fun z => away (z ▸ hb))).trans (hf b hb).1⟩
  done := fun X hP hw hK hc i pins s σ H E I hf ⟨en, ti, n1, n2, n3⟩ ⟨xs, hq, hx⟩ => by
    subst hP hw hK hx
    obtain ⟨its, rv, tup, _⟩ := I.tuple hq
    have W := WalksT.enumerateD (prog := X.prog) (w := X.w) (A := X.A) (Draws.tuple (A := X.A.in1) (I.ok.hd hc) p a n2 its.toArray) e n1 (by simp [n1, n3]) (by simp)
    have sz : xs.length = its.toArray.size := by rw [List.size_toArray, ← rv.length]
    rw [sz] at en ti
    exact W.done s _ E ⟨en, ti, tup⟩ fun _ tk k => ⟨rfl, I.turnedL (t' := tk) (ch := [e, p]) k hf⟩
  self := fun _ _ _ _ _ st h => st.1.elim fun _ z => wpAny_pyIter_enum z h
theorem pi_enumA {X : Cx} {e : Expr} {ta : TA} {p pos tpos : Pos} {elts : List Expr} {kk : Nat} (hg : Gl X "enumerate") (hm : X.mg "enumerate" = none) (ha : PA X [e] ta) (hs : starEach [e] X.env = [(false, eval e X.env)] := by rfl) :
    PI X (.Tuple elts kk tpos) (.Call (.Name "enumerate" p) [e] [] pos) (fun σ H R => ta σ H fun vs H1 => ∃ a, vs = [.ref a] ∧ ((∃ xs, SqL X.K H1 a xs ∧ R (Ite X.K a) H1) ∨ ∃ xs, SqT X.K H1 a xs ∧ R (IteT X.K a) H1)) := ⟨fun pins s σ H R I h => by
  refine Call_ (ld_blt I hg hm boot_enumerate (PyProof.Rows.callWith_type1 (thn (ha.run pos pins s σ H _ I h) ?_) hs rfl))
  rintro us s1 ⟨vs, H1, I1, r1, a, rfl, qq⟩
  rw [Vals.ref1 r1]
  have new2 : ∀ b ∈ [s1.heap.objs.size + 1, s1.heap.objs.size], FpOk X pins H1 b :=
    List.forall_mem_cons.2 ⟨I1.fpOk (Nat.le_succ _) (I1.hok.fresh (Nat.le_succ _)), List.forall_mem_cons.2 ⟨I1.fpOk (Nat.le_refl _) (I1.hok.fresh (Nat.le_refl _)), fun _ z => nomatch z⟩⟩
  rcases qq with ⟨xs, hq, q⟩ | ⟨xs, hq, q⟩
  · exact (I1.list hq).elim fun _ z => call_enumerate_list z.2.1.isList fun g en ti _ old => wpAny_pyIter_enum en
      ⟨_, _, _, _, H1, rfl, I1.kept (t' := s1.toks) old, turn_enum a _ _, ⟨⟨_, en⟩, ti, Nat.succ_ne_self _⟩, new2, q⟩
  · obtain ⟨its, _, tup, _⟩ := I1.tuple hq
    have hla : a < s1.heap.objs.size := tup.elim fun _ z => Heap.lt_size z.1
    exact call_enumB (begins_tuple a its.toArray) tup fun g ti en old => wpAny_pyIter_enum en
      ⟨_, _, _, _, H1, rfl, I1.kept (t' := s1.toks) old, turn_enumT a _ _, ⟨⟨_, en⟩, ⟨_, ti, rfl, rfl⟩, Nat.succ_ne_self _, Nat.ne_of_lt hla, Nat.ne_of_gt (Nat.lt_succ_of_lt hla)⟩, new2, q⟩⟩
section
variable {K : PySem.W.Frag} {a : Addr} {vs : List V} {ds : List D} {Hs1 : Hp}
theorem walkD_enumT (h : SqT K Hs1 a vs) (r : Reps K Hs1 vs ds) : WalkD K (IteT K a) (enD 0 ds) Hs1 where
  go := fun i H hi s => by
    have hi' : i < vs.length := by rw [r.length, ← enD_len (k := 0)]; exact hi
    exact ⟨vs, vs[i], same_sqt s h, List.getElem?_eq_getElem hi'⟩
  stop := fun H s => ⟨vs, same_sqt s h, by rw [enD_len, ← r.length]⟩
  yld := fun i H Hs x H' d hd s1 s2 y => by
    obtain ⟨T, x1, rfl, hn, eh, e1⟩ := y
    obtain ⟨z, rfl, ez⟩ := enD_get hd
    obtain ⟨v, e3, r3⟩ := r.get ez
    have e4 := e1 vs (same_sqt (s1.trans s2) h)
    rw [e3] at e4
    have e5 := Option.some.inj e4
    subst e5
    rw [Nat.zero_add]
    exact yld_pair s2 hn eh (.int _) (r3.mono s1)
end
/-- enumerate of a list, the script, a tuple -/
def iEnA (fs : List Ev) : Iv := fun env => bindLI (evs fs env) fun ds => match ds with
  | [.lst l] => some (.ok (enD 0 l) true)
  | [.scr l] => some (.ok (enD 0 l) true)
  | [.tup l] => some (.ok (enD 0 l) true)
  | _ => none
section
variable {X : Cx} {W : WX} {a : Expr} {f : Ev} {p pos tpos : Pos}
theorem pid_enumA {elts : List Expr} {kk : Nat} (hg : Gl X "enumerate") (hm : X.mg "enumerate" = none) (ha : PAD X W [a] [f]) (hs : starEach [a] X.env = [(false, eval a X.env)] := by rfl) : PID X W (.Tuple elts kk tpos) (.Call (.Name "enumerate" p) [a] [] pos) (iEnA [f]) :=
  PI.weak (pi_enumA hg hm ha hs) fun σ H R ⟨env, Hs, r, F, e, q⟩ => ri_bindL F e q fun vs ds Hs1 H1 a1 F1 r1 e1 q1 => by
    split at e1
    · have e3 := Option.some.inj e1
      subst e3
      obtain ⟨v, rfl, h⟩ := reps1 r1
      cases h with
      | lst h r => exact ⟨_, rfl, .inl ⟨_, SqL.of (F1.sub _ _ h), endI.done F1.sub q1 (walkD_enum (SqL.of h) r)⟩⟩
    · have e3 := Option.some.inj e1
      subst e3
      obtain ⟨v, rfl, h⟩ := reps1 r1
      cases h with
      | scr h r => exact ⟨_, rfl, .inl ⟨_, F1.sub.seq h, endI.done F1.sub q1 (walkD_enum h r)⟩⟩
    · have e3 := Option.some.inj e1
      subst e3
      obtain ⟨v, rfl, h⟩ := reps1 r1
      cases h with
      | tup h r => exact ⟨_, rfl, .inr ⟨_, same_sqt F1.sub h.t, endI.done F1.sub q1 (walkD_enumT h r)⟩⟩
    · cases e1
end

/-! ### any -/
theorem truth_ints {prog : Program} {w : World} {A : Around} {ns : List Int} {its : List Value} (e : IntsAre its ns) :
    TruthOf prog w A (fun i v => its.toArray[i]? = some v) (fun i => ns.getD i 0 != 0) := fun i v s Q E hv hq => by
  have hv' : its[i]? = some v := by simpa using hv
  obtain ⟨t, e2⟩ := IntsAre.int_at e i v hv'
  subst e2
  exact PySem.P.truthy_int hq
theorem any_rangeI : ∀ ns : List Int, (List.range ns.length).any (fun i => ns.getD i 0 != 0) = ns.any (· != 0)
  | [] => rfl
  | n :: ns => by
    rw [List.length_cons, List.range_succ_eq_map, List.any_cons, List.any_map, List.any_cons, ← any_rangeI ns]
    rfl
/-- any over whole numbers: x begins with the iterator o, which goes through its -/
theorem any_ints {X : Cx} {pins : List (Addr × Obj)} {σ : Sg} {H : Hp} {s : Shared} {Q : VK} {x : Value} {o : Obj} {Hc : Heap → Prop} {fp : List Addr} {its : List Value} {ns : List Int} {St : Nat → Heap → Prop} (I : Inv X pins σ H s) (B : Begins x o Hc) (h0 : Hc s.heap)
    (W : Walks X.prog X.w X.A.in1 s.heap.objs.size fp [s.heap.objs.size] its.toArray.size (fun i v => its.toArray[i]? = some v) St) (st : St 0 (s.heap.push o)) (rv : Vals (ns.map V.int) its) (q : Q (.bl (ns.any (· != 0))) H) :
    wpAny (model X.prog X.w) X.A (call (.builtin "any") [x]) (EP X pins σ Q) X.xe s := by
  have len : its.toArray.size = ns.length := by simpa using rv.length.symm
  apply call_any_walk
  refine B.iter _ _ _ _ s _ h0 ⟨_, fp, _, _, _, St, _, rfl, W, st, truth_ints rv.ints, fun g tk old => ⟨_, H, I.kept (fun b z e => old b z (fun m => ?_) (Heap.get?_push_of_some _ e)), ?_, q⟩⟩
  · cases List.mem_singleton.1 m
    exact Nat.lt_irrefl _ (Heap.lt_size e)
  · rw [len, any_rangeI]
    exact rfl
theorem cr_anyI {X : Cx} (hc : X.calm = true) : CallR X (.builtin "any") (fun vs H Q => ∃ (a : Addr) (ns : List Int), vs = [V.ref a] ∧ SqL X.K H a (ns.map V.int) ∧ Q (.bl (ns.any (· != 0))) H) :=
  fun pins s σ H vs us Q I r ⟨a, ns, ev, hs, q⟩ => by
    subst ev
    obtain ⟨its, rv, hl, _⟩ := I.list hs
    have low : a ≠ s.heap.objs.size := hl.isList.elim fun _ z => Nat.ne_of_lt (Heap.lt_size z.1)
    rw [Vals.ref1 r]
    exact any_ints I (begins_list a its.toArray) hl.isList (Walks.list (A := X.A.in1) (I.ok.hd hc) _ a low its.toArray) ⟨⟨_, Heap.get?_push_size _ rfl, rfl, rfl⟩, hl.isList.push _⟩ rv q
theorem cr_anyT {X : Cx} (hc : X.calm = true) : CallR X (.builtin "any") (fun vs H Q => ∃ (a : Addr) (ns : List Int), vs = [V.ref a] ∧ SqT X.K H a (ns.map V.int) ∧ Q (.bl (ns.any (· != 0))) H) :=
  fun pins s σ H vs us Q I r ⟨a, ns, ev, hs, q⟩ => by
    subst ev
    obtain ⟨its, rv, ht, _⟩ := I.tuple hs
    have low : a ≠ s.heap.objs.size := ht.elim fun _ z => Nat.ne_of_lt (Heap.lt_size z.1)
    rw [Vals.ref1 r]
    exact any_ints I (begins_tuple a its.toArray) ht (Walks.tuple (A := X.A.in1) (I.ok.hd hc) _ a low its.toArray) ⟨⟨_, Heap.get?_push_size _ rfl, rfl, rfl⟩, Heap.IsTuple.push ht _⟩ rv q
def anyC : List D → Option Vn
  | [.lst l] => match D.bls l with
    | some bs => some (.v (.bl (bs.any id)))
    | none => (D.ints l).map fun ns => .v (.bl (ns.any (· != 0)))
  | [.tup l] => (D.ints l).map fun ns => .v (.bl (ns.any (· != 0)))
  | _ => none
theorem cd_any {X : Cx} (hc : X.calm = true) : CallD X (.builtin "any") anyC := fun pins s σ H vs us Q I r ⟨Hs, ds, u, sb, rp, eg, q⟩ => by
  unfold anyC at eg
  split at eg
  · obtain ⟨v, rfl, h⟩ := reps1 rp
    cases h with
    | lst h1 r1 =>
      split at eg
      · rename_i bs e1
        have e2 := Option.some.inj eg
        subst e2
        exact cr_any hc pins s σ H _ us Q I r ⟨_, bs, rfl, by rw [← bls_rep e1 r1]; exact SqL.of (sb _ _ h1), endV.here sb q (.bl _)⟩
      · obtain ⟨ns, e1, rfl⟩ := map_u eg
        exact cr_anyI hc pins s σ H _ us Q I r ⟨_, ns, rfl, by rw [← ints_rep e1 r1]; exact SqL.of (sb _ _ h1), endV.here sb q (.bl _)⟩
  · obtain ⟨v, rfl, h⟩ := reps1 rp
    cases h with
    | tup h1 r1 =>
      obtain ⟨ns, e1, rfl⟩ := map_u eg
      exact cr_anyT hc pins s σ H _ us Q I r ⟨_, ns, rfl, by rw [← ints_rep e1 r1]; exact same_sqt sb h1, endV.here sb q (.bl _)⟩
  · cases eg

/-! ### divmod, max -/
def divmodC : List D → Option Vn
  | [.int i, .int j] => if 0 < j ∧ j.natAbs.log2 < 9000 then some (.v (.tup [.int (i / j), .int (i % j)])) else none
  | _ => none
theorem cd_divmod {X : Cx} : CallD X (.builtin "divmod") divmodC := CallR.weak call_divmodW fun vs H Q ⟨Hs, ds, u, sb, r, eg, q⟩ => by
  unfold divmodC at eg
  split at eg
  · split at eg
    · rename_i hj
      have e2 := Option.some.inj eg
      subst e2
      obtain ⟨v, w, rfl, h, h2⟩ := reps2 r
      cases h
      cases h2
      exact ⟨_, _, rfl, ⟨hj.1, PyProof.noPylong_of_log2 hj.2⟩, fun p hp => endV.newT sb q hp (.cons (.int _) (.cons (.int _) .nil))⟩
    · cases eg
  · cases eg

/-! ### len(set(x)) -/
/-- len(set(a)), once it is known what the two calls do with a's value -/
theorem pe_lenSetOf {X : Cx} {a : Expr} {ta : TE} {φ : V → Hp → VK → Prop} {p p2 q pos : Pos} (hg : Gl X "len") (hm : X.mg "len" = none) (hg2 : Gl X "set") (hm2 : X.mg "set" = none) (ha : PE X a ta)
    (na : starEach [a] X.env = (false, eval a X.env) :: starEach [] X.env)
    (core : ∀ (pins : List (Addr × Obj)) (s : Shared) (σ : Sg) (H : Hp) (x : V) (v : Value) (Q : VK), Inv X pins σ H s → RelV x v → φ x H Q →
      wpAny (model X.prog X.w) X.A (call (.type "set") [v]) (fun r s' => wpAny (model X.prog X.w) X.A (call (.builtin "len") [r]) (EP X pins σ Q) X.xe s') X.xe s) :
    PE X (.Call (.Name "len" p) [.Call (.Name "set" p2) [a] [] q] [] pos) (fun σ H Q => ta σ H fun x H1 => φ x H1 Q) :=
  ⟨fun pins s σ H Q I h => Call_ (ld_blt I hg hm boot_len (PyProof.Rows.callWith_builtin1 (PyProof.Rows.args_cons (Call_ (ld_blt I hg2 hm2 boot_set (PyProof.Rows.callWith_type1
    (PyProof.Rows.args_cons (thn (ha.run pins s σ H _ I h) fun v s1 ⟨x, H1, I1, r1, q1⟩ => PyProof.Rows.args_nil
      (thn (core pins s1 σ H1 x v Q I1 r1 q1) fun _ _ z => PyProof.Rows.args_nil z)) na) na rfl))) rfl) rfl rfl))⟩
def nubN (ns : List Int) : Nat := (firstMet (fun i => ns.getD i 0) ns.length).length
theorem firstMet_le (f : Nat → Int) : ∀ n, (firstMet f n).length ≤ n
  | 0 => Nat.le_refl _
  | n + 1 => by
    have ih := firstMet_le f n
    rw [firstMet_succ]
    unfold step_dedup
    split
    · exact Nat.le_succ_of_le ih
    · rw [List.length_append]
      exact Nat.succ_le_succ ih
theorem pe_lenSetN {X : Cx} {a : Expr} {ta : TE} {p p2 q pos : Pos} (hg : Gl X "len") (hm : X.mg "len" = none) (hg2 : Gl X "set") (hm2 : X.mg "set" = none) (ha : PE X a ta) (hc : X.calm = true)
    (na : starEach [a] X.env = (false, eval a X.env) :: starEach [] X.env := by rfl) : PE X (.Call (.Name "len" p) [.Call (.Name "set" p2) [a] [] q] [] pos)
      (fun σ H Q => ta σ H fun x H1 => ∃ (l : Addr) (ns : List Int), x = .ref l ∧ SqL X.K H1 l (ns.map V.int) ∧ ns.length ≤ 4000 ∧ Q (.int (nubN ns : Nat)) H1) :=
  pe_lenSetOf hg hm hg2 hm2 ha na fun pins s σ H x v Q I r ⟨l, ns, ex, hq, hl, q1⟩ => by
    subst ex
    cases r
    obtain ⟨its, rv, pl, _⟩ := I.list hq
    have sz : its.toArray.size = ns.length := by simpa using rv.length.symm
    have few := firstMet_le (fun i => ns.getD i 0) ns.length
    refine call_set_list (I.ok.hd hc) pl.isList (ns := ns) (by simpa using rv.ints) (by rw [sz]; unfold scanBound; omega) fun g tk made old => ?_
    rw [sz] at made
    rcases made with ⟨o, es, ep, t, ho, hex, hd, -, -, -, fits, n⟩
    exact call_len_set ho hex hd fits (by rw [n] <;> omega) ⟨.int (nubN ns : Nat), H, (I.kept fun b z e => old b z (Heap.lt_size e) e).tok _, ⟨_, by rw [n]; rfl⟩, q1⟩
def cLenSet (f : Ev) : Ev := fun env => bindR (f env) fun d => match d with
  | .lst l => (D.ints l).bind fun ns => if ns.length ≤ 4000 then some (.v (.int (nubN ns : Nat))) else none
  | _ => none
theorem pd_lenSet {X : Cx} {W : WX} {a : Expr} {f : Ev} {p p2 q pos : Pos} (hg : Gl X "len") (hm : X.mg "len" = none) (hg2 : Gl X "set") (hm2 : X.mg "set" = none) (ha : PD X W a f) (hc : X.calm = true)
    (na : starEach [a] X.env = (false, eval a X.env) :: starEach [] X.env := by rfl) : PD X W (.Call (.Name "len" p) [.Call (.Name "set" p2) [a] [] q] [] pos) (cLenSet f) :=
  pd_of (pe_lenSetN hg hm hg2 hm2 ha hc na) fun σ H Q env Hs r F e q => rd_bind F e q fun v d Hs1 H1 a1 F1 r1 e1 q1 => by
    split at e1
    · rename_i l
      rcases e2 : D.ints l with _ | ns
      · rw [e2] at e1; cases e1
      · rw [e2] at e1
        have e3 : (if ns.length ≤ 4000 then some (Rs.v (.int (nubN ns : Nat))) else none) = some r := e1
        split at e3
        · rename_i hl
          have e4 := Option.some.inj e3
          subst e4
          cases r1 with
          | lst h1 r1 => exact ⟨_, ns, rfl, by rw [← ints_rep e2 r1]; exact SqL.of (F1.sub _ _ h1), hl, endV.here F1.sub q1 (.int _)⟩
        · cases e3
    · cases e1
end HD

set_option Elab.async false
set_option linter.all false
set_option maxRecDepth 100000
set_option maxHeartbeats 4000000
/-! HDj: instances of own classes: methods, fields, making. -/
namespace HD
open PySem PySem.Spec PyProof.Rows L2
section
variable {X : Cx} {k : Nat} {f C : Addr} {fd : FuncData} {ps : List Str} {sp : Sp} {WW : WX} {x m : Str} {p pos apos : Pos} {e o : Expr} {es : List Expr} {ta : TE} {t : TA}
/-- how the call o.m(..) is read: o, the method, the arguments -/
abbrev MethAt (X : Cx) (pl : Sem Bool) (o : Expr) (m : Str) (apos : Pos) (es : List Expr) (pos : Pos) : Prop :=
  eval (.Call (.Attribute o m apos) es [] pos) X.env = (do let ov ← eval o X.env; standAt apos.atName; let (g, us) ← holding [ov] (getMethod ov m pl); callWith pos g us (backTo pos (starEach es X.env)) (backToKw pos (keywordEach [] X.env)))
/-- the part ahead of the arguments -/
theorem meth_recv {pl : Sem Bool} {es : List Expr} {pins : List (Addr × Obj)} {s : Shared} {σ : Sg} {H : Hp} {φ : V → Hp → Prop} {R : Value → Shared → Prop} (he : PE X o ta) (c : Cls X.K C) (hm : Meth X.K C m f) (ht : MethAt X pl o m apos es pos) (I : Inv X pins σ H s)
    (h : ta σ H fun x H1 => ∃ a dx fs, x = .ref a ∧ H1 a = some (.ins C dx fs) ∧ fs.lookup m = none ∧ φ x H1)
    (go : ∀ a s1 H1, Inv X pins σ H1 s1 → φ (.ref a) H1 → wpAny (model X.prog X.w) X.A (callWith pos (.ref f) [.ref a] (backTo pos (starEach es X.env)) (backToKw pos (keywordEach [] X.env))) R X.xe s1) :
    wpAny (model X.prog X.w) X.A (eval (.Call (.Attribute o m apos) es [] pos) X.env) R X.xe s :=
  PySem.W.methodCall_KW (pl := pl) (thn (he.run pins s σ H _ I h) (by
    rintro u s1 ⟨_, H1, I1, ru, a, _, _, rfl, at1, own, q⟩
    cases ru
    exact getmeth_ok I1 at1 c hm own (go a s1 H1 I1 q))) ht
/-- o.m(..), the wish for exceptions by the frame -/
def tMethS (C : Addr) (m : Str) (sp : Sp) (WW : WX) (ta : TE) (t : TA) : TE := fun σ H Q => ta σ H fun x H1 => ∃ a dx fs, x = .ref a ∧ H1 a = some (.ins C dx fs) ∧ fs.lookup m = none ∧
  t σ H1 fun vs H2 => sp (x :: vs) H2 Q (WE WW σ)
theorem pe_methWS {pl : Sem Bool} (he : PE X o ta) (c : Cls X.K C) (hm : Meth X.K C m f) (F : FnOk X.prog X.w X.K X.mg X.base (L2.CX X.prog X.w) k f fd ps sp) (hr : Room k X.A) (hb : Binds X.K fd ps []) (tk : Takes X WW) (ha : PA X (e :: es) t)
    (hst : starEach (e :: es) X.env = (false, eval e X.env) :: starEach es X.env) (hpl : (backTo pos (starEach es X.env)).any (·.1) = false) (ht : MethAt X pl o m apos (e :: es) pos) :
    PE X (.Call (.Attribute o m apos) (e :: es) [] pos) (tMethS C m sp WW ta t) :=
  ⟨fun pins s σ H Q I h => meth_recv he c hm ht I h fun a s1 H1 I1 q => PySem.W.callWith_K (first := [.ref a]) (h₀ := X.base) I1.ok.mod.kin hm.kp
    (thn (ha.run pos pins s1 σ H1 _ I1 q) fun us s2 ⟨vs, _, I2, r, q2⟩ => ⟨I2.kIn, run_fnS (us := .ref a :: us) (vs := .ref a :: vs) F hr hb (passAt tk σ) I2 (.cons rfl r) q2⟩) hst hpl⟩
theorem pe_methWS0 {pl : Sem Bool} (he : PE X o ta) (c : Cls X.K C) (hm : Meth X.K C m f) (F : FnOk X.prog X.w X.K X.mg X.base (L2.CX X.prog X.w) k f fd ps sp) (hr : Room k X.A) (hb : Binds X.K fd ps []) (tk : Takes X WW) (ht : MethAt X pl o m apos [] pos) :
    PE X (.Call (.Attribute o m apos) [] [] pos) (tMethS C m sp WW ta tNil) :=
  ⟨fun pins s σ H Q I h => meth_recv he c hm ht I h fun a s1 H1 I1 q => PySem.W.callWith_K0 (first := [.ref a]) I1.kIn hm.kp (run_fnS (us := [.ref a]) (vs := [.ref a]) F hr hb (passAt tk σ) I1 (.cons rfl .nil) q)⟩
/-- C(..) -/
def tMakeS (C : Addr) (sp : Sp) (WW : WX) (t : TA) : TE := fun σ H Q => t σ H fun vs H1 => ∀ x dx, H1 x = none → H1 dx = none → dx ≠ x →
  sp (.ref x :: vs) (upd (upd H1 dx (.own x)) x (.ins C dx [])) (fun v H2 => v = .non ∧ Q (.ref x) H2) (WE WW σ)
/-- an instance of C is laid, and __init__ is called with it and us -/
theorem make_at {pins : List (Addr × Obj)} {s : Shared} {σ : Sg} {H : Hp} {Q : VK} {vs : List V} {us : List Value} (M : Mk X.K C f) (F : FnOk X.prog X.w X.K X.mg X.base (L2.CX X.prog X.w) k f fd ps sp) (hr : Room (k + 1) X.A) (hb : Binds X.K fd ps []) (tk : Takes X WW) (I : Inv X pins σ H s) (r : Vals vs us)
    (q : ∀ x dx, H x = none → H dx = none → dx ≠ x → sp (.ref x :: vs) (upd (upd H dx (.own x)) x (.ins C dx [])) (fun v H2 => v = .non ∧ Q (.ref x) H2) (WE WW σ)) : wpAny (model X.prog X.w) X.A (call (.ref C) us) (EP X pins σ Q) X.xe s := by
  have mine := Inv.made (C := C) I
  generalize hN : s.heap.objs.size = N at mine
  have q0 := q (N + 1) N (I.hok.fresh (hN ▸ Nat.le_succ _)) (I.hok.fresh (Nat.le_of_eq hN)) (Nat.ne_of_lt (Nat.lt_succ_self N))
  have rel : Vals (V.ref (N + 1) :: vs) (Value.ref (N + 1) :: us) := .cons rfl r
  have args := hb _ (Value.ref (N + 1) :: us) mine.kIn (by rw [List.append_nil, ← rel.length]; exact F.len _ _ _ _ q0)
  rw [List.append_nil] at args
  subst hN
  exact wpAny_call (make_map (f := f) I.kIn M.makes M.init (beq_iff_eq.mp M.fn) (codeAny_mono (F.run _ X.stack _ _ _ _ _ _ _ (hr.make C us []) (mine.env0.make C us []) args rel q0) fun
    | .error e, s2, z => passAt tk σ pins _ _ e s2 mine z
    | .ok (.ret u), s2, z => match mine.after z with | ⟨_, H2, I2, ru, ev, q2⟩ => ⟨by subst ev; exact ru, .ref (s.heap.objs.size + 1), H2, I2, rfl, q2⟩
    | .ok .next, _, z => z.elim
    | .ok .brk, _, z => z.elim
    | .ok .cont, _, z => z.elim))
theorem pe_makeWS (M : Mk X.K C f) (F : FnOk X.prog X.w X.K X.mg X.base (L2.CX X.prog X.w) k f fd ps sp) (hr : Room (k + 1) X.A) (hg : Gl X x) (hm : X.mg x = some (.ref C)) (hb : Binds X.K fd ps []) (tk : Takes X WW) (ha : PA X (e :: es) t)
    (hdb : (x == ("__debug__" : Str)) = false) (hst : starEach (e :: es) X.env = (false, eval e X.env) :: starEach es X.env) (hpl : (backTo pos (starEach es X.env)).any (·.1) = false) : PE X (.Call (.Name x p) (e :: es) [] pos) (tMakeS C sp WW t) :=
  ⟨fun pins s σ H Q I h => wpAny_Call_Name_kw (ld_glob I hg hm (PySem.W.callWith_K (h₀ := X.base) I.ok.mod.kin M.kp (thn (ha.run pos pins s σ H _ I h) fun _ s1 ⟨_, H1, I1, r, q⟩ => ⟨I1.kIn, make_at M F hr hb tk I1 r q⟩) hst hpl) hdb)⟩
end

/-! ### methods -/
/-- the class's method m keeps φ -/
def Mt (P : Program) (w : World) (K : PySem.W.Frag) (mg : Str → Option Value) (base : Heap) (C m : Str) (k : Nat) (φ : List D → Option Rs) : Prop :=
  ∃ f fd ps, FnOk P w K mg base (L2.CX P w) k f fd ps (spD K φ) ∧ Cls K (He.ga K C) ∧ Meth K (He.ga K C) m f ∧ Binds K fd ps []
/-- o.m(..): by the class of o -/
def methR (m : Str) (tbl : List (Str × (List D → Option Rs))) (fs : List Ev) (env : En) : D → Option Rs
  | .ins C gs => (tbl.lookup C).bind fun φ => if gs.lookup m = none then bindL (evs fs env) fun ds => φ (.ins C gs :: ds) else none
  | _ => none
def cMeth (m : Str) (tbl : List (Str × (List D → Option Rs))) (o : Ev) (fs : List Ev) : Ev := fun env => bindR (o env) (methR m tbl fs env)
def methO (m C : Str) (φ : List D → Option Rs) (fs : List Ev) (env : En) : D → Option Rs
  | .ins C' gs => if C' = C ∧ gs.lookup m = none then bindL (evs fs env) fun ds => φ (.ins C' gs :: ds) else none
  | _ => none
theorem methR_O {m : Str} {tbl : List (Str × (List D → Option Rs))} {fs : List Ev} {env : En} {d : D} {r : Rs} (h : methR m tbl fs env d = some r) : ∃ C φ, (C, φ) ∈ tbl ∧ methO m C φ fs env d = some r := by
  unfold methR at h
  split at h
  · rename_i C gs
    cases hl : tbl.lookup C with
    | none => rw [hl] at h; cases h
    | some φ =>
      rw [hl] at h
      refine ⟨C, φ, ?_, ?_⟩
      · clear h
        induction tbl with
        | nil => cases hl
        | cons a tbl ih =>
          rw [List.lookup_cons] at hl
          split at hl
          · rename_i hb
            have e := eq_of_beq hb
            obtain ⟨a1, a2⟩ := a
            have e2 : φ = a2 := (Option.some.inj hl).symm
            rw [e2, show C = a1 from e]
            exact List.mem_cons_self ..
          · exact List.mem_cons_of_mem _ (ih hl)
      · have h2 : (if gs.lookup m = none then bindL (evs fs env) fun ds => φ (.ins C gs :: ds) else none) = some r := h
        show (if C = C ∧ gs.lookup m = none then bindL (evs fs env) fun ds => φ (.ins C gs :: ds) else none) = some r
        by_cases hz : gs.lookup m = none
        · rw [if_pos ⟨rfl, hz⟩]
          rw [if_pos hz] at h2
          exact h2
        · rw [if_neg hz] at h2
          cases h2
  · cases h
theorem RepF.none' {K : PySem.W.Frag} {H : Hp} {m : Str} : ∀ {fs : List (Str × V)} {gs : List (Str × D)}, RepF K H fs gs → gs.lookup m = none → fs.lookup m = none
  | [], [], _, _ => rfl
  | (a, v) :: fs, gs, r, h => by
    cases r with
    | cons r rr =>
      rw [List.lookup_cons] at h ⊢
      split at h
      · cases h
      · exact RepF.none' rr h
section
variable {X : Cx} {W : WX} {o e : Expr} {es : List Expr} {fo : Ev} {fs : List Ev} {pos apos : Pos} {k : Nat} {m : Str} {tbl : List (Str × (List D → Option Rs))}
theorem pd_meth {pl : Sem Bool} (hn : tbl ≠ []) (hne : ∀ q ∈ tbl, Mt X.prog X.w X.K X.mg X.base q.1 m k q.2) (hr : Room k X.A) (tk : Takes X W) (ho : PD X W o fo) (ha : PAD X W (e :: es) fs)
    (hst : starEach (e :: es) X.env = (false, eval e X.env) :: starEach es X.env := by rfl) (hpl : (backTo pos (starEach es X.env)).any (·.1) = false := by rfl)
    (ht : MethAt X pl o m apos (e :: es) pos := by rfl) :
    PD X W (.Call (.Attribute o m apos) (e :: es) [] pos) (cMeth m tbl fo fs) := by
  have main : ∀ C φ, Mt X.prog X.w X.K X.mg X.base C m k φ → PD X W (.Call (.Attribute o m apos) (e :: es) [] pos) (fun env => bindR (fo env) (methO m C φ fs env)) := fun C φ ⟨f, fd, ps, Fn, hc, hm, hb⟩ =>
    pd_of (pe_methWS ho hc hm Fn hr hb tk ha hst hpl ht) fun σ H Q env Hs r F e1 q => rd_bind F e1 q fun v d Hs1 H1 a1 F1 r1 e2 q1 => by
      unfold methO at e2
      split at e2
      · rename_i C' gs
        split at e2
        · rename_i hcond
          obtain ⟨rfl, hl⟩ := hcond
          cases r1 with
          | ins h2 r2 =>
            refine ⟨_, _, _, rfl, F1.sub _ _ h2, RepF.none' r2 hl, ?_⟩
            exact rd_bindL F1 e2 q1 fun vs ds Hs2 H2 a2 F2 rr e3 q2 => ⟨Hs2, _ :: ds, r, F2.sub, .cons (Rep.mono a2.s (.ins h2 r2)) rr, e3, q2⟩
        · cases e2
      · cases e2
  refine ⟨fun pins s σ H Q I h => ?_⟩
  obtain ⟨env, Hs, r, F, e1, q⟩ := h
  unfold cMeth at e1
  cases hf : fo env with
  | none => rw [hf] at e1; cases e1
  | some rr =>
    rw [hf] at e1
    cases rr with
    | v d =>
      obtain ⟨C, φ, hmem, h2⟩ := methR_O (show methR m tbl fs env d = some r from e1)
      exact (main C φ (hne _ hmem)).run pins s σ H Q I ⟨env, Hs, r, F, by show bindR (fo env) _ = _; rw [hf]; exact h2, q⟩
    | n d =>
      obtain ⟨C, φ, hmem, h2⟩ := methR_O (show methR m tbl fs env d = some r from e1)
      exact (main C φ (hne _ hmem)).run pins s σ H Q I ⟨env, Hs, r, F, by show bindR (fo env) _ = _; rw [hf]; exact h2, q⟩
    | x d =>
      cases tbl with
      | nil => exact absurd rfl hn
      | cons a tbl => exact (main a.1 a.2 (hne _ (List.mem_cons_self ..))).run pins s σ H Q I ⟨env, Hs, r, F, by show bindR (fo env) _ = _; rw [hf]; exact e1, q⟩
theorem pd_meth0 {pl : Sem Bool} (hn : tbl ≠ []) (hne : ∀ q ∈ tbl, Mt X.prog X.w X.K X.mg X.base q.1 m k q.2) (hr : Room k X.A) (tk : Takes X W) (ho : PD X W o fo)
    (ht : MethAt X pl o m apos [] pos := by rfl) :
    PD X W (.Call (.Attribute o m apos) [] [] pos) (cMeth m tbl fo []) := by
  have main : ∀ C φ, Mt X.prog X.w X.K X.mg X.base C m k φ → PD X W (.Call (.Attribute o m apos) [] [] pos) (fun env => bindR (fo env) (methO m C φ [] env)) := fun C φ ⟨f, fd, ps, Fn, hc, hm, hb⟩ =>
    pd_of (pe_methWS0 ho hc hm Fn hr hb tk ht) fun σ H Q env Hs r F e1 q => rd_bind F e1 q fun v d Hs1 H1 a1 F1 r1 e2 q1 => by
      unfold methO at e2
      split at e2
      · rename_i C' gs
        split at e2
        · rename_i hcond
          obtain ⟨rfl, hl⟩ := hcond
          cases r1 with
          | ins h2 r2 => exact ⟨_, _, _, rfl, F1.sub _ _ h2, RepF.none' r2 hl, Hs1, [_], r, F1.sub, .cons (.ins h2 r2) .nil, e2, q1⟩
        · cases e2
      · cases e2
  refine ⟨fun pins s σ H Q I h => ?_⟩
  obtain ⟨env, Hs, r, F, e1, q⟩ := h
  unfold cMeth at e1
  cases hf : fo env with
  | none => rw [hf] at e1; cases e1
  | some rr =>
    rw [hf] at e1
    cases rr with
    | v d =>
      obtain ⟨C, φ, hmem, h2⟩ := methR_O (show methR m tbl [] env d = some r from e1)
      exact (main C φ (hne _ hmem)).run pins s σ H Q I ⟨env, Hs, r, F, by show bindR (fo env) _ = _; rw [hf]; exact h2, q⟩
    | n d =>
      obtain ⟨C, φ, hmem, h2⟩ := methR_O (show methR m tbl [] env d = some r from e1)
      exact (main C φ (hne _ hmem)).run pins s σ H Q I ⟨env, Hs, r, F, by show bindR (fo env) _ = _; rw [hf]; exact h2, q⟩
    | x d =>
      cases tbl with
      | nil => exact absurd rfl hn
      | cons a tbl => exact (main a.1 a.2 (hne _ (List.mem_cons_self ..))).run pins s σ H Q I ⟨env, Hs, r, F, by show bindR (fo env) _ = _; rw [hf]; exact e1, q⟩
end

/-! ### making an instance: __init__ puts one field -/
/-- what an __init__ promises that puts the field fld -/
def spI (K : PySem.W.Frag) (fld : Str) (φ : List D → Option Rs) : Sp := fun vs H Q E => ∃ Hs ds r x C dx vs', vs = V.ref x :: vs' ∧ H x = some (.ins C dx []) ∧ Cls K C ∧ NoAttr K C fld ∧ Hs x = none ∧ Same Hs H ∧ Reps K Hs vs' ds ∧ φ ds = some r ∧
  match r with
  | .x e => endX K E Hs H e
  | .v d => ∀ v Hs' H', Ext Hs H Hs' H' → Rep K Hs' v d → Q .non (upd H' x (.ins C dx [(fld, v)]))
  | .n d => ∀ v Hs' H', Ext Hs H Hs' H' → Rep K Hs' v d → Q .non (upd H' x (.ins C dx [(fld, v)]))
/-- the class C is made by an __init__ that puts fld by φ -/
def Mi (P : Program) (w : World) (K : PySem.W.Frag) (mg : Str → Option Value) (base : Heap) (C fld : Str) (k : Nat) (φ : List D → Option Rs) : Prop :=
  ∃ f fd ps, FnOk P w K mg base (L2.CX P w) k f fd ps (spI K fld φ) ∧ Mk K (He.ga K C) f ∧ mg C = some (.ref (He.ga K C)) ∧ Binds K fd ps [] ∧ Cls K (He.ga K C) ∧ NoAttr K (He.ga K C) fld
def insR (C fld : Str) (r : Option Rs) : Option Rs := match r with
  | some (.v d) => some (.v (.ins C [(fld, d)]))
  | some (.n d) => some (.v (.ins C [(fld, d)]))
  | some (.x e) => some (.x e)
  | none => none
def cMake (C fld : Str) (φ : List D → Option Rs) (fs : List Ev) : Ev := fun env => bindL (evs fs env) fun ds => insR C fld (φ ds)
section
variable {X : Cx} {W : WX} {e : Expr} {es : List Expr} {fs : List Ev} {pos p : Pos} {k : Nat} {C fld : Str} {φ : List D → Option Rs}
theorem pd_make (G : Mi X.prog X.w X.K X.mg X.base C fld k φ) (hr : Room (k + 1) X.A) (hg : Gl X C) (tk : Takes X W) (ha : PAD X W (e :: es) fs) (hdb : (C == ("__debug__" : Str)) = false := by decide)
    (he : starEach (e :: es) X.env = (false, eval e X.env) :: starEach es X.env := by rfl) (hpl : (backTo pos (starEach es X.env)).any (·.1) = false := by rfl) : PD X W (.Call (.Name C p) (e :: es) [] pos) (cMake C fld φ fs) := by
  obtain ⟨f, fd, ps, Fn, M, hm, hb, hc, hn⟩ := G
  refine pd_of (pe_makeWS M Fn hr hg hm hb tk ha hdb he hpl) fun σ H Q env Hs r F e1 q => rd_bindL F e1 q fun vs ds Hs1 H1 a1 F1 rr e2 q1 => ?_
  intro x dx hx hdx hne
  have hx1 : Hs1 x = none := F1.sub.free hx
  have sm0 : Same Hs1 (upd (upd H1 dx (.own x)) x (.ins (He.ga X.K C) dx [])) := fun b u hb => by
    have hb2 := F1.sub b u hb
    rw [upd_ne (ne_of_none hb2 hx), upd_ne (ne_of_none hb2 hdx)]
    exact hb2
  have ext0 : Ext Hs1 H1 Hs1 (upd (upd H1 dx (.own x)) x (.ins (He.ga X.K C) dx [])) := ((Ext.refl F1.sub).laidN hdx).laidN (by rw [upd_ne (Ne.symm hne)]; exact hx)
  have fin : ∀ d : D, r = .v (.ins C [(fld, d)]) → ∀ v Hs' H', Ext Hs1 (upd (upd H1 dx (.own x)) x (.ins (He.ga X.K C) dx [])) Hs' H' → Rep X.K Hs' v d → (V.non = V.non ∧ Q (.ref x) (upd H' x (.ins (He.ga X.K C) dx [(fld, v)]))) := fun d hd v Hs' H' a2 rv => by
    subst hd
    refine ⟨rfl, ?_⟩
    have hx2 : Hs' x = none := a2.new x hx1 (by rw [upd_same]; exact fun z => (nomatch z))
    have a3 : Ext Hs1 H1 Hs' H' := ext0.trans a2
    have a4 : Ext Hs1 H1 Hs' (upd H' x (.ins (He.ga X.K C) dx [(fld, v)])) := a3.mut hx hx2
    have a5 := a4.freeze hx hx2 (upd_same (H := H') (a := x) (o := .ins (He.ga X.K C) dx [(fld, v)]))
    exact q1 (.ref x) _ _ a5 (.ins upd_same (.cons (rv.mono (same_upd hx2)) .nil))
  cases hφ : φ ds with
  | none => rw [hφ] at e2; cases e2
  | some u =>
    rw [hφ] at e2
    refine ⟨Hs1, ds, u, x, He.ga X.K C, dx, vs, rfl, upd_same, hc, hn, hx1, sm0, rr, hφ, ?_⟩
    cases u with
    | v d => exact fin d (Option.some.inj e2).symm
    | n d => exact fin d (Option.some.inj e2).symm
    | x d =>
      have e3 : Rs.x d = r := Option.some.inj e2
      subst e3
      exact fun cls dd Hs' H' a2 rx => q1 cls dd Hs' H' (ext0.trans a2) rx
end

/-! ### an __init__ that puts one field -/
section
variable {P : Program} {w : World} {K : PySem.W.Frag} {mg : Str → Option Value} {base : Heap} {f : Addr} {fd : FuncData} {N ps : List Str} {x qual : Str} {params : Arguments} {scope : Scope} {k n np : Nat} {F : Ev} {e : Expr} {fld self : Str} {p1 p2 p3 : Pos}
def initB (np n : Nat) (F : Ev) (ds : List D) : Option Rs := if ds.length = np then F (.un :: envOf n ds) else none
theorem fn_init (Fd : FunD K x qual params [.Assign [.Attribute (.Name self p1) fld p2] e p3] scope [] [] f fd) (S : FnScope N ps scope) (hN : N.length = n + 1) (hp : ps.length = np + 1)
    (h0 : N[0]? = some self) (hv : Vis scope self) (hd1 : (self == ("__debug__" : Str)) = false) (hd2 : (self == ("__classdict__" : Str)) = false)
    (hsw : ∀ (env : Env), swapsWith e (some (.Attribute (.Name self p1) fld p2)) p3.line env = pure false)
    (hb : ∀ (cdv : Value) (A : Around) (outer : List Env) (s : Shared) (H : Hp) (E : XK), Room k (A.deeper (envOfC qual scope s.heap.objs.size f cdv)) →
      PD (cxOf (L2.CX P w) P w K mg base N qual scope f cdv A outer s H E) (fun cls dd _ H' => E cls dd H') e F) : FnOk P w K mg base (L2.CX P w) (k + 1) f fd ps (spI K fld (initB np n F)) := by
  refine Fd.ok S (fun vs H Q E ⟨Hs, ds, r, x, C, dx, vs', e1, _, _, _, _, _, rp, eφ, _⟩ => ?_) fun cdv A outer s H vs Q E hr ⟨Hs, ds, r, x, C, dx, vs', e1, hx, hc, hn, hxs, sm, rp, eφ, q⟩ => ?_
  · unfold initB at eφ
    split at eφ
    · rw [e1, List.length_cons, rp.length, hp]
      omega
    · cases eφ
  · subst e1
    unfold initB at eφ
    split at eφ
    case isFalse => cases eφ
    case isTrue hl =>
      have hself : PE (cxOf (L2.CX P w) P w K mg base N qual scope f cdv A outer s H E) (.Name self p1) _ := pe_var (i := 0) h0 hv hd1 hd2
      refine ⟨_, pss_one (ps_fld hself (hb cdv A outer s H E hr) (hsw _)), ?_⟩
      obtain ⟨n0, N', rfl⟩ : ∃ n0 N', N = n0 :: N' := by
        cases N with
        | nil => cases hN
        | cons a b => exact ⟨a, b, rfl⟩
      have hN' : N'.length = n := by rw [List.length_cons] at hN; omega
      have st : L2.start (n0 :: N') (V.ref x :: vs') = some (V.ref x) :: L2.start N' vs' := by
        unfold L2.start
        rw [List.map_cons, List.length_cons, List.length_cons, Nat.add_sub_add_right]
        rfl
      have Fr := envOf_start (N := N') sm rp n hN'
      rw [st]
      have Fe : FrE K (.un :: envOf n ds) Hs (some (V.ref x) :: L2.start N' vs') H := by
        refine ⟨sm, by rw [List.length_cons, List.length_cons, Fr.len], fun i d e => ?_⟩
        cases i with
        | zero => cases e
        | succ i =>
          have e2 : getv (envOf n ds) i = some d := e
          unfold getv at e2
          cases h : (envOf n ds)[i]? with
          | none => rw [h] at e2; cases e2
          | some sl =>
            rw [h] at e2
            cases sl with
            | un => cases e2
            | sh d' =>
              have e3 : d' = d := Option.some.inj e2
              subst e3
              exact Fr.sh i d' h
            | own d' =>
              have hm := List.mem_of_getElem? h
              unfold envOf at hm
              rcases List.mem_append.1 hm with hm | hm
              · obtain ⟨z, _, hz⟩ := List.mem_map.1 hm
                cases hz
              · cases List.eq_of_mem_replicate hm
      have put : ∀ v Hs' H', Ext Hs H Hs' H' → Q .non (upd H' x (.ins C dx [(fld, v)])) → ∃ v0, (some (V.ref x) :: L2.start N' vs')[0]? = some (some v0) ∧ ∃ a C dx fs, v0 = V.ref a ∧ H' a = some (.ins C dx fs) ∧ Cls K C ∧ NoAttr K C fld ∧ fs.length < 1000 ∧ Q .non (upd H' a (.ins C dx (putF fld v fs))) :=
        fun v Hs' H' a hq => ⟨.ref x, rfl, x, C, dx, [], rfl, a.h _ _ hx, hc, hn, by decide, hq⟩
      refine ⟨.un :: envOf n ds, Hs, r, Fe, eφ, ?_⟩
      cases r with
      | v d => exact fun v Hs' H' a rv => put v Hs' H' a (q v Hs' H' a rv)
      | n d =>
        intro v Hs' H' a rn
        obtain ⟨Hs2, a2, rv⟩ := RepN.share a rn
        exact put v Hs2 H' a2 (q v Hs2 H' a2 rv)
      | x e => exact q
end

/-! ### isinstance of own classes -/
def tyInsB (K : PySem.W.Frag) (C : Str) : Bool := decide (PySem.W.findIn K (.ref (He.ga K C)) "__class__" = some (some (.builtin "object.__class__"))) && (decide (PySem.W.specialIn K (.builtin "object.__class__") "__get__" = some (some (.builtin "getset_descriptor.__get__"))) &&
  (decide (PySem.W.takesIn K (.builtin "object.__class__") = some true) && decide (PySem.W.mroIn K (He.ga K C) (.type "object") = some true)))
/-- C is (b) a kind of T -/
def isaB (K : PySem.W.Frag) (C T : Str) (b : Bool) : Bool := decide (PySem.W.kitOne K (.ref (He.ga K C)) (.ref (He.ga K T)) = some b)
/-- what isinstance(x, T) needs of the classes told in tbl -/
def IsC (K : PySem.W.Frag) (mg : Str → Option Value) (T : Str) (tbl : List (Str × Bool)) : Prop := mg T = some (.ref (He.ga K T)) ∧ ∀ q ∈ tbl, tyInsB K q.1 = true ∧ Cls K (He.ga K q.1) ∧ isaB K q.1 T q.2 = true
def cIsC (tbl : List (Str × Bool)) (f : Ev) : Ev := fun env => bindR (f env) fun d => match d with
  | .ins C _ => (tbl.lookup C).map fun b => .v (.bl b)
  | _ => none
theorem lookup_mem {tbl : List (Str × Bool)} {C : Str} {b : Bool} (hl : tbl.lookup C = some b) : (C, b) ∈ tbl := by
  induction tbl with
  | nil => cases hl
  | cons a tbl ih =>
    rw [List.lookup_cons] at hl
    split at hl
    · rename_i hb
      have e := eq_of_beq hb
      obtain ⟨a1, a2⟩ := a
      have e2 : b = a2 := (Option.some.inj hl).symm
      rw [e2, show C = a1 from e]
      exact List.mem_cons_self ..
    · exact List.mem_cons_of_mem _ (ih hl)
section
variable {X : Cx} {W : WX} {a : Expr} {f : Ev} {T : Str} {p q pos : Pos} {tbl : List (Str × Bool)}
theorem pd_isC (J : IsC X.K X.mg T tbl) (hg : Gl X "isinstance") (hm : X.mg "isinstance" = none) (hg2 : Gl X T) (ha : PD X W a f) (hdb : (T == ("__debug__" : Str)) = false := by decide)
    (he : starEach [a, .Name T q] X.env = (false, eval a X.env) :: starEach [.Name T q] X.env := by rfl) (he2 : starEach [.Name T q] X.env = (false, eval (.Name T q) X.env) :: starEach [] X.env := by rfl) (hpl : (backTo pos (starEach [.Name T q] X.env)).any (·.1) = false := by rfl) :
    PD X W (.Call (.Name "isinstance" p) [a, .Name T q] [] pos) (cIsC tbl f) :=
  pd_of (pe_callB call_isi hg hm (by decide +kernel) (pa_cons ha (pa_cons (pe_glob (v := .ref (He.ga X.K T)) hg2 J.1 rfl hdb) pa_nil he2) he) (by decide +kernel) (by decide +kernel) he hpl) fun σ H Q env Hs r F e q => rd_bind F e q fun v d Hs1 H1 a1 F1 r1 e1 q1 => by
    split at e1
    · rename_i C gs
      cases hl : tbl.lookup C with
      | none => rw [hl] at e1; cases e1
      | some b =>
        rw [hl] at e1
        have e2 := Option.some.inj e1
        subst e2
        obtain ⟨h1, h2, h3⟩ := J.2 _ (lookup_mem hl)
        unfold tyInsB at h1
        simp only [Bool.and_eq_true, decide_eq_true_eq] at h1
        cases r1 with
        | ins h4 r2 => exact ⟨_, .ref (He.ga X.K T), _, _, b, rfl, .own _, .base (.ins (F1.sub _ _ h4) h2 h1.1 h1.2.1 h1.2.2.1 h1.2.2.2), of_decide_eq_true h3, endV.here F1.sub q1 (.bl b)⟩
    · cases e1
end
/-! ### the facts of a head -/
theorem mkMt {P : Program} {w : World} {K : PySem.W.Frag} {mg : Str → Option Value} {base : Heap} {C x qual m : Str} {k : Nat} {φ : List D → Option Rs} {f : Addr} {fd : FuncData} {ps : List Str} {params : Arguments} {body : List Stmt} {scope : Scope}
    (F : FunD K x qual params body scope [] [] f fd) (ok : FnOk P w K mg base (L2.CX P w) k f fd ps (spD K φ)) (hc : Cls K (He.ga K C)) (hm : Meth K (He.ga K C) m f)
    (hb : ∀ (kV doc pm : Value) (an : Option Addr) (cdv ct : Value) (us : List Value), us.length = ps.length → bindArgs (PySem.W.fnOf x qual params body scope .none kV doc pm an cdv ct) ⟨us, []⟩ = pure (ps.zip us)) : Mt P w K mg base C m k φ :=
  ⟨f, fd, ps, ok, hc, hm, F.bindsN hb⟩
theorem mkMi {P : Program} {w : World} {K : PySem.W.Frag} {mg : Str → Option Value} {base : Heap} {C x qual fld : Str} {k : Nat} {φ : List D → Option Rs} {f : Addr} {fd : FuncData} {ps : List Str} {params : Arguments} {body : List Stmt} {scope : Scope}
    (F : FunD K x qual params body scope [] [] f fd) (ok : FnOk P w K mg base (L2.CX P w) k f fd ps (spI K fld φ)) (hc : Cls K (He.ga K C)) (hn : NoAttr K (He.ga K C) fld) (M : Mk K (He.ga K C) f) (hm : mg C = some (.ref (He.ga K C)))
    (hb : ∀ (kV doc pm : Value) (an : Option Addr) (cdv ct : Value) (us : List Value), us.length = ps.length → bindArgs (PySem.W.fnOf x qual params body scope .none kV doc pm an cdv ct) ⟨us, []⟩ = pure (ps.zip us)) : Mi P w K mg base C fld k φ :=
  ⟨f, fd, ps, ok, M, hm, F.bindsN hb, hc, hn⟩
def inCls (s : Stmt) (j : Nat) : Stmt := match s with
  | .ClassDef _ _ _ b _ _ _ _ _ _ _ => b.getD j (.Pass ⟨0, 0, 0, 0⟩)
  | _ => .Pass ⟨0, 0, 0, 0⟩
end HD

set_option Elab.async false
set_option linter.all false
set_option maxRecDepth 100000
set_option maxHeartbeats 4000000
/-! HDk: zip of a list and a tuple, in any mix. -/
namespace HD
open PySem PySem.Spec PyProof.Rows L2

/-- the things at a, a tuple (t) or a list -/
def sqB (K : PySem.W.Frag) (t : Bool) (H : Hp) (a : Addr) (xs : List V) : Prop := match t with
  | true => SqT K H a xs
  | false => SqL K H a xs
def lsB (t : Bool) (h : Heap) (a : Addr) (its : Array Value) : Prop := match t with
  | true => h.IsTuple a its
  | false => h.IsList a its
def itB (t : Bool) (h : Heap) (it a : Addr) (i : Nat) : Prop := match t with
  | true => h.IsTupleIter it a i
  | false => h.IsListIter it a i
def itO (t : Bool) (a : Addr) : Obj := { cls := .type (if t then "tuple_iterator" else "list_iterator"), data := .fields #[.ref a, .int 0 0] }
section
variable {X : Cx} {pins : List (Addr × Obj)} {σ : Sg} {H : Hp} {s : Shared} {t : Bool} {h h' : Heap} {a b it : Addr} {i : Nat} {xs ys : List V} {its : Array Value}
theorem sqB_its (I : Inv X pins σ H s) (q : sqB X.K t H a xs) : ∃ its : List Value, Vals xs its ∧ lsB t s.heap a its.toArray := by
  cases t with
  | true => obtain ⟨its, r, p, _⟩ := I.tuple q; exact ⟨its, r, p⟩
  | false => obtain ⟨its, r, p, _⟩ := I.list q; exact ⟨its, r, p.isList⟩
theorem sqB_inj (I : Inv X pins σ H s) (q : sqB X.K t H a xs) (q2 : sqB X.K t H a ys) : xs = ys := by
  cases t with
  | true => exact I.tuple_inj q q2
  | false => exact I.list_inj q q2
theorem itB_at (x : itB t h it a i) (k : ∀ o, h.get? it = some o → h'.get? it = some o) : itB t h' it a i := by
  cases t with
  | true => exact Heap.IsTupleIter.at x k
  | false => exact Heap.IsListIter.at x k
theorem itB_obj (x : itB t h it a i) : ∃ o, h.get? it = some o ∧ ∀ v, o.data ≠ .cell v := by
  cases t with
  | true => obtain ⟨o, e, _, d⟩ := x; exact ⟨o, e, fun v z => by rw [d] at z; cases z⟩
  | false => obtain ⟨o, e, _, d⟩ := x; exact ⟨o, e, fun v z => by rw [d] at z; cases z⟩
theorem lsB_lt (x : lsB t h a its) : a < h.objs.size := by
  cases t with
  | true => obtain ⟨o, e, _⟩ := x; exact Heap.lt_size e
  | false => obtain ⟨o, e, _⟩ := x; exact Heap.lt_size e
theorem itB_new (e : h.get? it = some (itO t a)) : itB t h it a 0 := by
  cases t with
  | true => exact ⟨_, e, rfl, rfl⟩
  | false => exact ⟨_, e, rfl, rfl⟩
theorem begB (t : Bool) (a : Addr) (its : Array Value) : Begins (.ref a) (itO t a) fun h => lsB t h a its := by
  cases t with
  | true => exact begins_tuple a its
  | false => exact begins_list a its
theorem drawB {prog : Program} {w : World} {A : Around} (hh : A.handled = none) (t : Bool) (it a : Addr) (hne : a ≠ it) (its : Array Value) :
    Draws prog w A it [it, a] its.size (fun i v => its[i]? = some v) fun i h => itB t h it a i ∧ lsB t h a its := by
  cases t with
  | true => exact Draws.tuple hh it a hne its
  | false => exact Draws.list hh it a hne its
end
/-- what stands at a and b, side by side, in new pairs -/
def ItzB (K : PySem.W.Frag) (t u : Bool) (a b : Addr) : It :=
  ⟨fun i H => ∃ (xs ys : List V) (x y : V), (sqB K t H a xs ∧ xs[i]? = some x) ∧ sqB K u H b ys ∧ ys[i]? = some y,
    fun i H v H' => ∃ T x y, (v = .ref T ∧ H T = none) ∧ H' = upd H T (.tup [x, y]) ∧ (∀ xs, sqB K t H a xs → xs[i]? = some x) ∧ ∀ ys, sqB K u H b ys → ys[i]? = some y,
    fun i H => ∃ xs ys : List V, (sqB K t H a xs ∧ sqB K u H b ys) ∧ i = min xs.length ys.length⟩
/-- the cells of a zip, one after the other -/
structure Zc5 (z TI TO i1 i2 a b : Addr) : Prop where
  sep : ZipSep2 z TI TO i1 i2 [i1, a] [i2, b]
  az : a ≠ i1
  bz : b ≠ i2
theorem turn_zipB {P : Program} {w : World} {K : PySem.W.Frag} {elts : List Expr} {kk : Nat} {tpos : Pos} {t u : Bool} {a b z TI TO i1 i2 : Addr} (D : Zc5 z TI TO i1 i2 a b) :
    Turn P w K (.Tuple elts kk tpos) (ItzB K t u a b) [i1, i2, TI, TO, z] z (fun i h => (itB t h i1 a i ∧ itB u h i2 b i) ∧ IsZip h z TI TO .none ∧ IsTupOf2 h TI (.ref i1) (.ref i2) ∧ ∃ x y, IsTupOf2 h TO x y) where
  mem := by simp
  obj := fun i h st c hc => by
    obtain ⟨⟨x1, x2⟩, hz, hTI, p, q, hTO⟩ := st
    simp only [List.mem_cons, List.not_mem_nil, or_false] at hc
    rcases hc with e | e | e | e | e <;> subst e
    · exact itB_obj x1
    · exact itB_obj x2
    · exact ⟨_, hTI, fun v j => nomatch j⟩
    · exact ⟨_, hTO, fun v j => nomatch j⟩
    · exact ⟨_, hz, fun v j => nomatch j⟩
  keep := fun i h h' st k => by
    obtain ⟨⟨x1, x2⟩, hz, hTI, p, q, hTO⟩ := st
    exact ⟨⟨itB_at x1 (k i1 (by simp)), itB_at x2 (k i2 (by simp))⟩, k z (by simp) _ hz, k TI (by simp) _ hTI, p, q, k TO (by simp) _ hTO⟩
  item := by
    intro X hP hw hK hc i pins s σ H E I hf st hg
    subst hP hw hK
    obtain ⟨⟨x1, x2⟩, hz, hTI, p, q, hTO⟩ := st
    obtain ⟨xs, ys, x, y, ⟨qx, hx⟩, qy, hy⟩ := hg
    obtain ⟨vs, rv, l1⟩ := sqB_its I qx
    obtain ⟨us, ru, l2⟩ := sqB_its I qy
    obtain ⟨v, ev, rx⟩ := rv.get hx
    obtain ⟨v', ev', ry⟩ := ru.get hy
    have sizes : ∀ c ∈ [i1, i2, TI, TO, z], c < s.heap.objs.size := fun c hm => by
      simp only [List.mem_cons, List.not_mem_nil, or_false] at hm
      rcases hm with e | e | e | e | e <;> subst e
      · obtain ⟨o, e, _⟩ := itB_obj x1; exact Heap.lt_size e
      · obtain ⟨o, e, _⟩ := itB_obj x2; exact Heap.lt_size e
      · exact Heap.lt_size hTI
      · exact Heap.lt_size hTO
      · exact Heap.lt_size hz
    have hh : X.A.in1.handled = none := I.ok.hd hc
    refine wpAny_pyNext_zipD2_item D.sep (drawB hh t i1 a D.az vs.toArray) (drawB hh u i2 b D.bz us.toArray) hz hTI hTO ⟨x1, l1⟩ ⟨x2, l2⟩ (by simpa using (List.getElem?_eq_some_iff.mp ev).1) (by simpa using (List.getElem?_eq_some_iff.mp ev').1) fun w1 w2 h' tk e1 e2 z' TO' s1 s2 hT hsz hk => ?_
    have f1 : w1 = v := by
      have j : vs[i]? = some w1 := by simpa using e1
      exact Option.some.inj (j.symm.trans ev)
    have f2 : w2 = v' := by
      have j : us[i]? = some w2 := by simpa using e2
      exact Option.some.inj (j.symm.trans ev')
    subst f1 f2
    refine ⟨_, rfl, wpAny_letOwnedTupleGo_zip (s := { s with heap := h', toks := tk }) z' fun h'' z'' sb => ?_⟩
    have ne : ∀ {c : Addr}, c ∈ [i1, i2, TI, TO, z] → c ≠ s.heap.objs.size := fun {c} hm => Nat.ne_of_lt (sizes c hm)
    have hT2 : h''.get? s.heap.objs.size = some { cls := .type "tuple", data := .seq #[w1, w2] } := (sb.2 _ (Ne.symm (ne (by simp)))).trans hT
    have new : ObjOk X.prog X.w (upd H s.heap.objs.size (.tup [x, y])) h'' s.heap.objs.size (.tup [x, y]) := ⟨by show 2 ≤ sizeLine; decide, [w1, w2], .cons rx (.cons ry .nil), ⟨_, hT2, rfl, _, rfl⟩⟩
    have J : Inv X pins σ (upd H s.heap.objs.size (.tup [x, y])) { s with heap := h'', toks := tk } :=
      I.turnedNew (ch := [i1, i2, TI, TO, z]) (fun c o hb j => by
        simp only [List.mem_cons, List.not_mem_nil, or_false, not_or] at hb
        exact (sb.2 c hb.2.2.2.2).trans (hk c o hb.2.2.2.2 hb.2.2.2.1 hb.1 hb.2.1 j)) hf (Nat.le_refl _) new
    have iz : ∀ {c : Addr}, c ≠ z → ∀ o, h'.get? c = some o → h''.get? c = some o := fun {c} hne o j => (sb.2 c hne).trans j
    refine ⟨.ref s.heap.objs.size, _, J, rfl, ⟨_, x, y, ⟨rfl, I.hok.fresh (Nat.le_refl _)⟩, rfl, fun l hl => by rw [sqB_inj I hl qx]; exact hx, fun l hl => by rw [sqB_inj I hl qy]; exact hy⟩,
      ⟨⟨itB_at s1.1 (iz (Ne.symm D.sep.zi1)), itB_at s2.1 (iz (Ne.symm D.sep.zi2))⟩, z'', iz D.sep.TIz _ (hk _ _ D.sep.TIz D.sep.TITO D.sep.TIi1 D.sep.TIi2 hTI), w1, w2, iz D.sep.TOz _ TO'⟩, fun c hm => ?_⟩
    rw [upd_ne (ne hm)]
    exact (hf c hm).1
  done := by
    intro X hP hw hK hc i pins s σ H E I hf st hg
    subst hP hw hK
    obtain ⟨⟨x1, x2⟩, hz, hTI, p, q, hTO⟩ := st
    obtain ⟨xs, ys, ⟨qx, qy⟩, he⟩ := hg
    obtain ⟨vs, rv, l1⟩ := sqB_its I qx
    obtain ⟨us, ru, l2⟩ := sqB_its I qy
    have n1 : vs.toArray.size = xs.length := by rw [List.size_toArray]; exact rv.length.symm
    have n2 : us.toArray.size = ys.length := by rw [List.size_toArray]; exact ru.length.symm
    have hh : X.A.in1.handled = none := I.ok.hd hc
    exact wpAny_pyNext_zipD2_end D.sep (drawB hh t i1 a D.az vs.toArray) (drawB hh u i2 b D.bz us.toArray) hz hTI hTO ⟨x1, l1⟩ ⟨x2, l2⟩ (by omega) (by omega) (by omega) fun h' tk hk =>
      ⟨rfl, I.turnedL (ch := [i1, i2, TI, TO, z]) (fun c o hb j => by
        simp only [List.mem_cons, List.not_mem_nil, or_false, not_or] at hb
        exact hk c o hb.2.2.2.2 hb.2.2.2.1 hb.1 hb.2.1 j) hf⟩
  self := fun A i s Q E st h => wpAny_pyIter_zip st.2.1 h
def iZipB (K : PySem.W.Frag) (ta : TA) : TI := fun σ H R => ta σ H fun vs H1 => ∃ (t u : Bool) (a b : Addr) (xs ys : List V), vs = [.ref a, .ref b] ∧ (sqB K t H1 a xs ∧ sqB K u H1 b ys) ∧ R (ItzB K t u a b) H1
theorem pi_zipB {X : Cx} {e e2 : Expr} {ta : TA} {p pos tpos : Pos} {elts : List Expr} {kk : Nat} (hg : Gl X "zip") (hm : X.mg "zip" = none) (ha : PA X [e, e2] ta)
    (hs : starEach [e, e2] X.env = (false, eval e X.env) :: starEach [e2] X.env := by rfl) (hpl : (backTo pos (starEach [e2] X.env)).any (·.1) = false := by rfl) :
    PI X (.Tuple elts kk tpos) (.Call (.Name "zip" p) [e, e2] [] pos) (iZipB X.K ta) := by
  refine ⟨fun pins s σ H R I h => Call_ (ld_blt I hg hm PyProof.Rows.boot_zip (PyProof.Rows.callWith_type1 (thn (ha.run pos pins s σ H _ I h) fun vs s1 ⟨us, H1, I1, r1, t, u, a, b, xs, ys, ex, ⟨qx, qy⟩, q⟩ => ?_) hs hpl))⟩
  subst ex
  cases r1 with
  | cons ra rr =>
    cases rr with
    | cons rb rr =>
      cases rr
      cases ra
      cases rb
      obtain ⟨i1, v1, l1⟩ := sqB_its I1 qx
      obtain ⟨i2, v2, l2⟩ := sqB_its I1 qy
      have la := lsB_lt l1
      have lb := lsB_lt l2
      refine zip_begins2 (begB t a i1.toArray) (begB u b i2.toArray) l1 l2 fun h' hz hTI hTO g1 g2 hsz hk => wpAny_pyIter_zip hz ?_
      have J : Inv X pins σ H1 { s1 with heap := h' } := I1.kept (t' := s1.toks) hk
      have up : ∀ c ∈ [s1.heap.objs.size, s1.heap.objs.size + 1, s1.heap.objs.size + 2, s1.heap.objs.size + 3, s1.heap.objs.size + 4], s1.heap.objs.size ≤ c := fun c hm => by
        simp only [List.mem_cons, List.not_mem_nil, or_false] at hm
        rcases hm with e | e | e | e | e <;> rw [e]
        · exact Nat.le_refl _
        all_goals exact Nat.le_add_right _ _
      have sp : ZipSep2 (s1.heap.objs.size + 4) (s1.heap.objs.size + 2) (s1.heap.objs.size + 3) s1.heap.objs.size (s1.heap.objs.size + 1) [s1.heap.objs.size, a] [s1.heap.objs.size + 1, b] :=
        zip_sep2 (fp1 := [a]) (fp2 := [b]) (fun c hm => by rw [List.mem_singleton.1 hm]; exact la) fun c hm => by rw [List.mem_singleton.1 hm]; exact lb
      exact ⟨s1.heap.objs.size + 4, [s1.heap.objs.size, s1.heap.objs.size + 1, s1.heap.objs.size + 2, s1.heap.objs.size + 3, s1.heap.objs.size + 4], _, ItzB X.K t u a b, H1, rfl, J,
        turn_zipB ⟨sp, Nat.ne_of_lt la, Nat.ne_of_lt (Nat.lt_succ_of_lt lb)⟩, ⟨⟨itB_new g1, itB_new g2⟩, hz, hTI, _, _, hTO⟩, fun c hm => I1.fpOk (up c hm) (I1.hok.fresh (up c hm)), q⟩

theorem sqB_same {K : PySem.W.Frag} {H H' : Hp} {t : Bool} {a : Addr} {xs : List V} (e : Same H H') (q : sqB K t H a xs) : sqB K t H' a xs := by
  cases t with
  | true => exact same_sqt e q
  | false => exact e.seq q
/-- the items do not turn on how they are read -/
theorem walkD_zipB {K : PySem.W.Frag} {t u : Bool} {a b : Addr} {vs ws : List V} {ds es : List D} {Hs1 : Hp} (h : sqB K t Hs1 a vs) (r : Reps K Hs1 vs ds) (h2 : sqB K u Hs1 b ws) (r2 : Reps K Hs1 ws es) : WalkD K (ItzB K t u a b) (prD ds es) Hs1 where
  go := fun i H hi s => by
    rw [prD_len, ← r.length, ← r2.length] at hi
    exact ⟨vs, ws, vs[i], ws[i], ⟨sqB_same s h, by simp⟩, sqB_same s h2, by simp⟩
  stop := fun H s => ⟨vs, ws, ⟨sqB_same s h, sqB_same s h2⟩, by rw [prD_len, ← r.length, ← r2.length]⟩
  yld := fun i H Hs x H' d hd s1 s2 y => by
    obtain ⟨T, x1, y1, ⟨rfl, hn⟩, eh, e1, e2⟩ := y
    obtain ⟨z, z2, rfl, ez, ez2⟩ := prD_get hd
    obtain ⟨v, e3, r3⟩ := r.get ez
    obtain ⟨v2, e4, r4⟩ := r2.get ez2
    have f1 := e1 vs (sqB_same (s1.trans s2) h)
    have f2 := e2 ws (sqB_same (s1.trans s2) h2)
    rw [e3] at f1
    rw [e4] at f2
    cases f1
    cases f2
    exact yld_pair s2 hn eh (r3.mono s1) (r4.mono s1)
/-- the things of a list or a tuple -/
def sqD : D → Option (List D)
  | .tup l => some l
  | .lst l => some l
  | .scr l => some l
  | _ => none
theorem sqD_rep {K : PySem.W.Frag} {H : Hp} {v : V} {d : D} {l : List D} (e : sqD d = some l) (r : Rep K H v d) : ∃ (t : Bool) (a : Addr) (vs : List V), v = .ref a ∧ sqB K t H a vs ∧ Reps K H vs l := by
  unfold sqD at e
  split at e
  · cases e
    cases r with
    | tup h1 r1 => exact ⟨true, _, _, rfl, h1.t, r1⟩
  · cases e
    cases r with
    | lst h1 r1 => exact ⟨false, _, _, rfl, SqL.of h1, r1⟩
  · cases e
    cases r with
    | scr h1 r1 => exact ⟨false, _, _, rfl, h1, r1⟩
  · cases e
def zq2 : List D → Option Ri
  | [x, y] => (sqD x).bind fun l => (sqD y).map fun m => .ok (prD l m) true
  | _ => none
def iZq (fs : List Ev) : Iv := fun env => bindLI (evs fs env) zq2
theorem pid_zipB {X : Cx} {W : WX} {a b : Expr} {fs : List Ev} {pos p tpos : Pos} {elts : List Expr} {kk : Nat} (hg : Gl X "zip") (hm : X.mg "zip" = none) (ha : PAD X W [a, b] fs)
    (hs : starEach [a, b] X.env = (false, eval a X.env) :: starEach [b] X.env := by rfl) (hpl : (backTo pos (starEach [b] X.env)).any (·.1) = false := by rfl) : PID X W (.Tuple elts kk tpos) (.Call (.Name "zip" p) [a, b] [] pos) (iZq fs) :=
  PI.weak (pi_zipB hg hm ha hs hpl) fun σ H R ⟨env, Hs, r, F, e, q⟩ => ri_bindL F e q fun vs ds Hs1 H1 a1 F1 r1 e1 q1 => by
    unfold zq2 at e1
    split at e1
    · rename_i x y
      cases e2 : sqD x with
      | none => rw [e2] at e1; cases e1
      | some l =>
        rw [e2] at e1
        cases e3 : sqD y with
        | none =>
          rw [Option.bind_some, e3] at e1
          cases e1
        | some m =>
          rw [Option.bind_some, e3] at e1
          have e4 := Option.some.inj e1
          subst e4
          obtain ⟨v, w, rfl, h, h2⟩ := reps2 r1
          obtain ⟨t, a, us, rfl, j1, j2⟩ := sqD_rep e2 h
          obtain ⟨u, b, ws, rfl, k1, k2⟩ := sqD_rep e3 h2
          exact ⟨t, u, a, b, us, ws, rfl, ⟨sqB_same F1.sub j1, sqB_same F1.sub k1⟩, endI.done F1.sub q1 (walkD_zipB j1 j2 k1 k2)⟩
    · cases e1

/-! ### a, b, .. = a tuple or a list -/
theorem PG.or {X : Cx} {tg : Expr} {t u : TG} (h : PG X tg t) (k : PG X tg u) : PG X tg fun v σ H Q => t v σ H Q ∨ u v σ H Q :=
  ⟨fun pins s σ H v w Q I r q => q.elim (h.run pins s σ H v w Q I r) (k.run pins s σ H v w Q I r)⟩
def setUR (is : List Nat) (u : Vn) (env : En) : Option Out := (sqD u.d).bind fun ds => (setAll is ds env).map .nx
def cSetU (is : List Nat) (nm : List Nat) (f : Ev) : Sm := fun env => evx nm f env (setUR is)
theorem psd_setU {X : Cx} {W : WX} {a : Expr} {f : Ev} {pos tp : Pos} {es : List Expr} {kk : Nat} {nm is : List Nat} (hc : X.calm = true) (hg : PGs X es (gsOf is)) (he : PD X W a f)
    (hn : (assignEach es X.env).length = is.length := by rfl) (hst : (assignEach es X.env).findIdx? (·.1) = none := by rfl) (hs : swapsWithSole [.Tuple es kk tp] a pos.line X.env = pure false := by rfl) (hw : swappedStores [.Tuple es kk tp] a X.env = pure none := by rfl)
    (h1 : (assignEach [.Tuple es kk tp] X.env).map (·.2) = [assign (.Tuple es kk tp) X.env] := by rfl) : PSD X W (.Assign [.Tuple es kk tp] a pos) (cSetU is nm f) :=
  PS.weak (ps_asg he (PG.or (pg_tup hc hg hn hst) (pg_unl hc hg hn hst)) hs hw h1) fun D σ H ⟨H0s, H0, env, Hs, o, Fr, e, q⟩ => by
    refine evx_ok Fr e q fun v u env1 Hs1 H1 s1 F1 gt e1 q1 => ?_
    unfold setUR at e1
    cases e2 : sqD u.d with
    | none => rw [e2] at e1; cases e1
    | some ds =>
      rw [e2] at e1
      cases e3 : setAll is ds env1 with
      | none =>
        rw [Option.bind_some, e3] at e1
        cases e1
      | some env2 =>
        rw [Option.bind_some, e3] at e1
        have e4 := Option.some.inj e1
        subst e4
        obtain ⟨Hs2, s2, F2, r2⟩ := gt.share F1
        have k : ∀ σ', FrOk X.K H0s H0 env2 Hs2 σ' H1 → D.nx σ' H1 := fun σ' F3 => q1 Hs2 σ' H1 s2 F3
        obtain ⟨t, p, vs, ev, hq, rs⟩ := sqD_rep e2 r2
        have hl : vs.length = is.length := by rw [rs.length]; exact (setAll_len _ _ _ _ e3).symm
        have go := gs_frOk is ds vs env1 env2 σ D.nx F2 rs e3 k
        cases t with
        | true => exact .inl ⟨p, vs, ev, same_sqt F2.sub hq, hl, go⟩
        | false => exact .inr ⟨p, vs, ev, F2.sub.seq hq, hl, go⟩

/-! ### constants: tuples of tuples -/
/-- four whole numbers, not all of them nought -/
def fourD : List D → Bool
  | [.int a, .int b, .int c, .int d] => !(decide (a = 0) && decide (b = 0) && decide (c = 0) && decide (d = 0))
  | _ => false
theorem four_rep {K : PySem.W.Frag} {H : Hp} {vs : List V} {ds : List D} (r : Reps K H vs ds) (h : fourD ds = false) : four4 vs = false := by
  unfold four4
  split
  · cases r with
    | cons r1 r => cases r with
      | cons r2 r => cases r with
        | cons r3 r => cases r with
          | cons r4 r =>
            cases r1; cases r2; cases r3; cases r4; cases r
            exact h
  · rfl
mutual
def repB (K : PySem.W.Frag) : Nat → Value → D → Bool
  | _, .none, .non => true
  | _, .bool b, .bl c => b == c
  | _, .int i _, .int j => i == j
  | _, .str x _, .str y => decide (x = y)
  | n + 1, .ref a, .tup ds => match K.lookup a with
    | some ⟨.type c, _, .seq its _, _⟩ => decide (c = "tuple") && (decide (its.size ≤ sizeLine) && (!fourD ds && repsB K n its.toList ds))
    | _ => false
  | _, _, _ => false
def repsB (K : PySem.W.Frag) : Nat → List Value → List D → Bool
  | _, [], [] => true
  | n, u :: us, d :: ds => repB K n u d && repsB K n us ds
  | _, _, _ => false
end
mutual
theorem repB_ok {K : PySem.W.Frag} : ∀ (n : Nat) (u : Value) (d : D), repB K n u d = true → ∃ v, RelV v u ∧ ∀ H, Rep K H v d := by
  intro n u d h
  unfold repB at h
  split at h
  · exact ⟨.non, rfl, fun H => .non⟩
  · rename_i b c
    have e : b = c := by simpa using h
    subst e
    exact ⟨.bl b, rfl, fun H => .bl b⟩
  · rename_i i t j
    have e : i = j := by simpa using h
    subst e
    exact ⟨.int i, ⟨_, rfl⟩, fun H => .int i⟩
  · rename_i x t y
    have e : x = y := of_decide_eq_true h
    subst e
    exact ⟨.str x, ⟨_, rfl⟩, fun H => .str x⟩
  · rename_i n a ds
    split at h
    · rename_i c dd its m sl hl
      rw [Bool.and_eq_true, Bool.and_eq_true, Bool.and_eq_true, Bool.not_eq_true'] at h
      obtain ⟨vs, r1, r2⟩ := repsB_ok n its.toList ds h.2.2.2
      refine ⟨.ref a, rfl, fun H => .tup (.inr ⟨four_rep (r2 H) h.2.2.1, _, its, m, hl, ?_, rfl, of_decide_eq_true h.2.1, r1⟩) (r2 H)⟩
      rw [of_decide_eq_true h.1]
    · cases h
  · cases h
theorem repsB_ok {K : PySem.W.Frag} : ∀ (n : Nat) (us : List Value) (ds : List D), repsB K n us ds = true → ∃ vs, Vals vs us ∧ ∀ H, Reps K H vs ds := by
  intro n us ds h
  cases us with
  | nil =>
    cases ds with
    | nil => exact ⟨[], .nil, fun H => .nil⟩
    | cons d ds => simp [repsB] at h
  | cons u us =>
    cases ds with
    | nil => simp [repsB] at h
    | cons d ds =>
      unfold repsB at h
      rw [Bool.and_eq_true] at h
      obtain ⟨v, a1, a2⟩ := repB_ok n u d h.1
      obtain ⟨vs, b1, b2⟩ := repsB_ok n us ds h.2
      exact ⟨v :: vs, .cons a1 b1, fun H => .cons (a2 H) (b2 H)⟩
end
theorem cn_rep {mg : Str → Option Value} {K : PySem.W.Frag} {x : Str} {d : D} (h : mg x = some (.ref (He.ga K x))) (b : repB K 6 (.ref (He.ga K x)) d = true) : Cn mg K x d := by
  obtain ⟨v, r, rp⟩ := repB_ok 6 _ d b
  exact ⟨_, v, h, r, rp⟩
end HD

set_option Elab.async false
set_option linter.all false
set_option maxRecDepth 100000
set_option maxHeartbeats 4000000
/-! HDl: exceptions: raise, try .. except T as n: y = n, isinstance of what was caught, its fields. -/
namespace HD
open PySem PySem.Spec PyProof.Rows L2
section
variable {X : Cx} {pins : List (Addr × Obj)} {σ : Sg} {H : Hp} {s : Shared}
/-- an exception that was caught is kept -/
theorem inv_track {a : Addr} {oe : Obj} {vs : Array Value} {cls : Value} {d : Option Addr} (I : Inv X pins σ H s) (na : H a = none) (ha : s.heap.get? a = some oe) (hd : oe.data = .fields vs) (hz : Zc cls d oe) (nL : a ≠ X.env.locals)
    (nw : ∀ b o, X.s_0.heap.get? b = some o → b ∉ X.ex → b ≠ a) (np : ∀ p ∈ X.pn ++ pins, p.1 ≠ a) : Inv X pins σ (upd H a (Xv cls d a)) s where
  ok := I.ok
  os := I.os
  bare := I.bare
  base := ⟨I.base.keep, I.base.slot, fun b o e n hx => by rw [upd_ne (nw b o e hx)]; exact I.base.free b o e n hx, I.base.there,
    fun b xs e => by rw [upd_ne (ne_of_none (I.base.tups b xs e) na)]; exact I.base.tups b xs e,
    fun b o u e => by rw [upd_ne (ne_of_none (I.base.frzs b o u e) na)]; exact I.base.frzs b o u e,
    fun b ps e => by
      obtain ⟨m, q⟩ := I.base.tbls b ps e
      exact ⟨m, by rw [upd_ne (ne_of_none q na)]; exact q⟩⟩
  loc := I.loc
  cell := I.cell
  free := by rw [upd_ne (Ne.symm nL)]; exact I.free
  freeC := fun x c e => by
    rw [upd_ne fun z => ?_]
    · exact I.freeC x c e
    · obtain ⟨v, o, ho, hv⟩ := I.cell x c e
      rw [z, ha] at ho
      cases ho
      rw [hd] at hv
      cases hv
  pin := fun p hp => by
    obtain ⟨e, n, r⟩ := I.pin p hp
    exact ⟨e, by rw [upd_ne (np p hp)]; exact n, r⟩
  hok := I.hok.laidN (fun _ _ e => e) na ⟨⟨oe, vs, ha, hz, hd⟩, ⟨oe, ha⟩, fun _ _ ⟨o, v, q, r⟩ k => ⟨o, v, k o q, r⟩⟩
  len := I.len
theorem unsuiteP {a : Addr} {q : Addr × Obj} {pn' : List (Addr × Obj)} (I : Inv (X.suite a (q :: (X.pn ++ pins))) pn' σ H s) (ok : X.Ok) : Inv X (q :: pins) σ H s :=
  ⟨ok, I.os, I.bare, I.base, I.loc, I.cell, I.free, I.freeC, fun p hp => I.pin p (by
    rcases List.mem_append.mp hp with h | h
    · exact List.mem_append_left _ (List.mem_cons_of_mem _ (List.mem_append_left _ h))
    · rcases List.mem_cons.mp h with h | h
      · exact List.mem_append_left _ (h ▸ List.mem_cons_self)
      · exact List.mem_append_left _ (List.mem_cons_of_mem _ (List.mem_append_right _ h))), I.hok, I.len⟩
theorem dropPin {q : Addr × Obj} (I : Inv X (q :: pins) σ H s) : Inv X pins σ H s :=
  ⟨I.ok, I.os, I.bare, I.base, I.loc, I.cell, I.free, I.freeC, fun p hp => I.pin p (by
    rcases List.mem_append.mp hp with h | h
    · exact List.mem_append_left _ h
    · exact List.mem_append_right _ (List.mem_cons_of_mem _ h)), I.hok, I.len⟩
end
/-- what the clause 'except x as n' wishes, the exception kept behind it -/
def wKeep (K : PySem.W.Frag) (c : Value) (i : Nat) (ts : Addr → Value → Option Addr → TS) (Wout : WX) (D : Ends) : WX := fun cls d σ H =>
  ∃ b, PySem.W.exmOne K cls c = some b ∧ (b = true → ∀ a, H a = none → ts a cls d { nx := fun σ' H' => D.nx (σ'.set i none) (upd H' a (Xv cls d a)), rt := D.rt, bk := fun σ' H' => D.bk (σ'.set i none) H', ct := fun σ' H' => D.ct (σ'.set i none) H' } (σ.set i (some (.ref a))) H) ∧
    (b = false → Wout cls d σ H)
/-! a caught exception on the ground -/
structure Lain (X : Cx) (pins : List (Addr × Obj)) (σ : Sg) (H : Hp) (t : Shared) (B : Heap) (a : Addr) (cls : Value) (d : Option Addr) (g : Heap) : Prop where
  inv : Inv X pins σ H { t with heap := g }
  fly : PySem.HandSPX.FlyingZ B (X.env :: X.outer) a (Zc cls d) g
  off : a ∉ frs (X.env :: X.outer)
section
variable {X : Cx} {pins : List (Addr × Obj)} {σ : Sg} {H : Hp} {t sI : Shared} {B g : Heap} {a : Addr} {cls : Value} {d : Option Addr}
theorem lain_of (hs : X.stack = X.env :: X.outer) (J : Inv X pins σ H sI) (nb : ∀ b o, sI.heap.get? b = some o → b ∉ frs X.stack → B.get? b = some o) (up : sI.heap.UpToSlots g) (os : t.os = sI.os) (ag : AllBare t.gens)
    (fl : PySem.HandSPX.FlyingZ B (X.env :: X.outer) a (Zc cls d) g) : Lain X pins σ H t B a cls d g where
  inv := Inv.landed (s' := { t with heap := g }) J nb fl.1 up os ag
  fly := fl
  off := fun hm => by
    obtain ⟨_, o1, q1, q2⟩ := fl.2.2.1.mem hm
    obtain ⟨o2, v2, q3, _, q4⟩ := fl.there
    rw [q3] at q1
    cases q1
    exact q2 _ q4
theorem Lain.nL (L : Lain X pins σ H t B a cls d g) (hf : X.env.frame = some X.env.locals) : a ≠ X.env.locals := fun z =>
  L.off (List.mem_filterMap.mpr ⟨X.env, List.mem_cons_self, by rw [z]; exact hf⟩)
theorem Lain.nF (L : Lain X pins σ H t B a cls d g) : a ∉ X.fs := fun hm => by
  obtain ⟨w, w1, w2⟩ := List.mem_filterMap.mp hm
  exact L.off (List.mem_filterMap.mpr ⟨w, List.mem_cons_of_mem _ w1, w2⟩)
theorem Lain.fresh (L : Lain X pins σ H t B a cls d g) (hs : X.stack = X.env :: X.outer) (nb : ∀ b o, sI.heap.get? b = some o → b ∉ frs X.stack → B.get? b = some o) : sI.heap.get? a = none := by
  cases q : sI.heap.get? a with
  | none => rfl
  | some o =>
    have z := nb a o q (by rw [hs]; exact L.off)
    rw [L.fly.2.1] at z
    cases z
theorem Lain.suite (L : Lain X pins σ H t B a cls d g) (hf : X.env.frame = some X.env.locals) (na : H a = none) :
    ∃ (oe : Obj) (vs : Array Value), Zc cls d oe ∧ oe.data = .fields vs ∧ Inv (X.suite a ((a, oe) :: (X.pn ++ pins))) [] σ H { t with heap := g } := by
  obtain ⟨oe, vs, q1, q2, q3⟩ := L.fly.there
  exact ⟨oe, vs, q2, q3, L.inv.suite q1 q3 na (L.nL hf) L.nF⟩
end
section
variable {X : Cx} {x n : Str} {c : Value} {i : Nat} {body ss : List Stmt} {s0 : Stmt} {np pos pos' : Pos} {tb : WX → TS} {ts : Addr → Value → Option Addr → TS} {Wout : WX} {pins : List (Addr × Obj)} {D : Ends}
/-- the suite of the clause, then the name goes, and the exception is kept -/
theorem keep_suite (ok : X.Ok) (hN : X.N.Nodup) (hi : X.N[i]? = some n) (hln : X.env.kindOf n = some .local) {a : Addr} {cls : Value} {d : Option Addr} {oe : Obj} {vs : Array Value} {f : Flow} {s : Shared} (hz : Zc cls d oe) (hd : oe.data = .fields vs) (nL : a ≠ X.env.locals)
    (nw : ∀ b o, X.s_0.heap.get? b = some o → b ∉ X.ex → b ≠ a) (np : ∀ p ∈ X.pn ++ pins, p.1 ≠ a)
    (h : SP (X.suite a ((a, oe) :: (X.pn ++ pins))) [] { nx := fun σ' H' => D.nx (σ'.set i none) (upd H' a (Xv cls d a)), rt := D.rt, bk := fun σ' H' => D.bk (σ'.set i none) H', ct := fun σ' H' => D.ct (σ'.set i none) H' } f s) :
    wpAny (model X.prog X.w) X.A (do bindName X.env n .none; unbindBehindTheSuite X.env n pos') (fun _ s7 => SP X pins D f s7) X.xe s := by
  have go : ∀ (σ6 : Sg) (H6 : Hp), Inv (X.suite a ((a, oe) :: (X.pn ++ pins))) [] σ6 H6 s → (∀ s7, Inv X ((a, oe) :: pins) (σ6.set i none) H6 s7 → SP X pins D f s7) →
      wpAny (model X.prog X.w) X.A (do bindName X.env n .none; unbindBehindTheSuite X.env n pos') (fun _ s7 => SP X pins D f s7) X.xe s := fun σ6 H6 I k => gone_ok (unsuiteP I ok) hN hi hln k
  cases f with
  | next =>
    obtain ⟨σ6, H6, I, q⟩ := h
    refine go σ6 H6 I fun s7 J => ?_
    obtain ⟨p1, p2, _⟩ := J.pin (a, oe) (List.mem_append_right _ List.mem_cons_self)
    exact ⟨_, _, inv_track (dropPin J) p2 p1 hd hz nL nw np, q⟩
  | brk =>
    obtain ⟨σ6, H6, I, q⟩ := h
    exact go σ6 H6 I fun s7 J => ⟨_, _, dropPin J, q⟩
  | cont =>
    obtain ⟨σ6, H6, I, q⟩ := h
    exact go σ6 H6 I fun s7 J => ⟨_, _, dropPin J, q⟩
  | ret u =>
    obtain ⟨v, σ6, H6, I, r, q⟩ := h
    exact go σ6 H6 I fun s7 J => ⟨v, _, _, dropPin J, r, q⟩
/-- an exception of the body meets the clause -/
theorem keep_meets (ok : X.Ok) (hs : X.stack = X.env :: X.outer) (hf : X.env.frame = some X.env.locals) (hN : X.N.Nodup) (hi : X.N[i]? = some n) (hln : X.env.kindOf n = some .local) (hc : Names X x c) (tk : Takes X Wout)
    (hsu : ∀ (a : Addr) (oe : Obj) (cls : Value) (d : Option Addr) (pn : List (Addr × Obj)), Zc cls d oe → PSs (X.suite a ((a, oe) :: pn)) (s0 :: ss) (ts a cls d)) {xe : Value → Shared → Prop} {u : Value} {t : Shared} (hx : XE (X.tr (X.pn ++ pins) xe) (wKeep X.K c i ts Wout D) u t) :
    wpAny (model X.prog X.w) X.A (noteFrame u X.env) (fun _ t2 => wpAny (model X.prog X.w) X.A (setFlight u none) (fun _ t3 =>
      wpAny (model X.prog X.w) X.A (handleBy u X.env [.ExceptHandler (some (.Name x np)) (some n) (s0 :: ss) pos']) (SP X pins D) X.xe t3) X.xe t2) X.xe t := by
  obtain ⟨a, B, sI, _, σ, H, cls, d, rfl, J0, nb, up, sky, na, os, ag, b, hb, yes, no⟩ := hx
  have J : Inv X pins σ H sI := J0.ofTry ok
  have nb' : ∀ b o, sI.heap.get? b = some o → b ∉ frs X.stack → B.get? b = some o := nb
  have fr2 : X.A.frames = some (X.env :: X.outer) := ok.frames.trans (congrArg some hs)
  have sky2 : Sky B (X.env :: X.outer) a (Zc cls d) X.env.locals t.heap := by rw [← hs]; exact sky
  refine Sky.land Zc.steady fr2 hf sky2 fun g fl up2 => ?_
  have L : Lain X pins σ H t B a cls d g := lain_of hs J nb' (up.trans up2) os ag fl
  obtain ⟨oe, vs, hz, hd, S⟩ := L.suite hf na
  have ha : g.get? a = some oe := (S.pin (a, oe) (List.mem_append_left _ List.mem_cons_self)).1
  refine wpAny_handleBy_cons (codeAny_handlers_test ?_) (fun z => nomatch z)
  have ty : PySem.W.Looks (model X.prog X.w) g (typeOf (.ref a)) cls := fun A0 Q0 E0 s9 k q => wpAny_typeOf_ref (k _ _ ha) (by rw [hz.1]; exact q)
  have mt := PySem.W.exm_one (M := model X.prog X.w) L.inv.kIn ty hb
  have nm : ∀ {Q0 : Value → Shared → Prop} {E0 : Value → Shared → Prop}, Q0 c { t with heap := g } → wpAny (model X.prog X.w) (X.A.mark (some (.ref a))) (eval (.Name x np) X.env) Q0 E0 { t with heap := g } := fun {Q0 E0} q => by
    obtain ⟨c1, c2, c3⟩ := hc
    rcases c3 with c3 | ⟨c3, c4, c5⟩
    · exact ld_glob (X := X.suite a ((a, oe) :: (X.pn ++ pins))) S c1 c3 q c2
    · exact ld_blt (X := X.suite a ((a, oe) :: (X.pn ++ pins))) S c1 c3 c4 q c5 c2
  refine nm (mt.here ?_)
  have newA := L.fresh hs nb'
  have nw : ∀ b o, X.s_0.heap.get? b = some o → b ∉ X.ex → b ≠ a := fun b o e hx z => by
    obtain ⟨o', q⟩ := J.base.there b o e hx
    rw [z, newA] at q
    cases q
  have npn : ∀ p ∈ X.pn ++ pins, p.1 ≠ a := fun p hp z => by
    have q := (J.pin p hp).1
    rw [z, newA] at q
    cases q
  cases b with
  | true =>
    refine codeAny_handlers_suite_as (PySem.HandSPX.lands_againZ fl fun g4 fl4 up4 => ?_)
    have L4 : Lain X pins σ H t B a cls d g4 := lain_of hs J nb' ((up.trans up2).trans up4) os ag fl4
    obtain ⟨oe4, vs4, hz4, hd4, S4⟩ := L4.suite hf na
    refine store_ok (X := X.suite a ((a, oe4) :: (X.pn ++ pins))) (v := .ref a) S4 hN hi (.inl hln) rfl (fun s5 S5 => ?_) (.inr hln)
    refine wpAny_mono ((hsu a oe4 cls d (X.pn ++ pins) hz4).run [] s5 _ H _ S5 (yes rfl a na)) (fun f s6 h6 => ?_) (fun _ _ z => z.elim)
    have fin := keep_suite (pos' := pos') ok hN hi hln hz4 hd4 (L4.nL hf) nw npn h6
    cases f <;> exact fin
  | false =>
    refine wpAny_handleBy_nil ?_
    obtain ⟨oe2, vs2, T, oT, tv, q1, q2, q3, q4, q5⟩ := fl.2.2.2
    have fin : wpAny (model X.prog X.w) X.A (setFlight (.ref a) X.env.frame) (fun _ s4 => wpAny (model X.prog X.w) X.A (throw (.ref a) : Sem Flow) (SP X pins D) X.xe s4) X.xe { t with heap := g } := by
      rw [hf]
      refine PySem.HandSPX.setFlight_upZ fl fun g4 held up4 => wpAny_throw (tk _ _ ⟨a, B, sI, pins, σ, H, cls, d, rfl, J, nb', (up.trans up2).trans up4, ?_, na, os, ag, no rfl⟩)
      rw [hs]
      exact .inr (.inr held)
    unfold PySem.passOn
    refine wpAny_bind (wpAny_field q1 q3 q4 ?_)
    rw [if_neg (by simp)]
    first
      | exact wpAny_bind (wpAny_pure (wpAny_bind fin))
      | exact wpAny_bind fin
theorem ps_try_keep (hs : X.stack = X.env :: X.outer) (hf : X.env.frame = some X.env.locals) (hN : X.N.Nodup) (hi : X.N[i]? = some n) (hln : X.env.kindOf n = some .local) (hc : Names X x c) (tk : Takes X Wout)
    (hb : ∀ (W : WX) (pn : List (Addr × Obj)) (xe : Value → Shared → Prop), Takes (X.tr pn xe) W → PSs (X.tr pn xe) body (tb W))
    (hsu : ∀ (a : Addr) (oe : Obj) (cls : Value) (d : Option Addr) (pn : List (Addr × Obj)), Zc cls d oe → PSs (X.suite a ((a, oe) :: pn)) (s0 :: ss) (ts a cls d)) :
    PS X (.Try body [.ExceptHandler (some (.Name x np)) (some n) (s0 :: ss) pos'] [] [] pos) (fun D σ H => tb (wKeep X.K c i ts Wout D) D σ H) := by
  refine ⟨fun pins s σ H D I h => wpAny_Try_except ?_⟩
  refine wpAny_mono ((hb (wKeep X.K c i ts Wout D) (X.pn ++ pins) _ fun u t hx => keep_meets (np := np) (pos' := pos') (D := D) I.ok hs hf hN hi hln hc tk hsu hx).run [] s σ H D (I.toTry _) h) (fun f s1 q => ?_) fun _ _ z => z
  have ok := I.ok
  cases f with
  | next =>
    obtain ⟨σ1, H1, J1, q1⟩ := q
    exact wpAny_execs_nil ⟨σ1, H1, J1.ofTry ok, q1⟩
  | brk =>
    obtain ⟨σ1, H1, J1, q1⟩ := q
    exact ⟨σ1, H1, J1.ofTry ok, q1⟩
  | cont =>
    obtain ⟨σ1, H1, J1, q1⟩ := q
    exact ⟨σ1, H1, J1.ofTry ok, q1⟩
  | ret u =>
    obtain ⟨v1, σ1, H1, J1, r1, q1⟩ := q
    exact ⟨v1, σ1, H1, J1.ofTry ok, r1, q1⟩
end
/-! ### raise C('..') -/
def veB : List Value := [.type "ValueError", .type "Exception", .type "BaseException", .type "object"]
def xctB (K : PySem.W.Frag) (C : Str) : Bool := PySem.W.keepIn K (.ref (He.ga K C)) && (PySem.W.excIn K (He.ga K C) veB "ValueError.__new__" && (decide (PySem.W.subIn K (.ref (He.ga K C)) (.type "BaseException") = some true) && decide (PySem.W.typeIn K (.ref (He.ga K C)) = some (.type "type"))))
/-- C is an own class of exceptions without own __init__ -/
def XcT (K : PySem.W.Frag) (mg : Str → Option Value) (C : Str) : Prop := mg C = some (.ref (He.ga K C)) ∧ xctB K C = true
def cRaise (C : Str) : Sm := fun env => some (.x (.exn C []) env)
section
variable {X : Cx} {W : WX} {C m : Str} {j : Nat} {p p2 pos pos' : Pos}
theorem psd_raise (J : XcT X.K X.mg C) (hc : X.calm = true) (tk : Takes X W) (hg : Gl X C) (hdb : (C == ("__debug__" : Str)) = false := by decide) : PSD X W (.Raise (some (.Call (.Name C p) [.Constant (.str m) j p2] [] pos)) none pos') (cRaise C) := by
  obtain ⟨g, q⟩ := J
  unfold xctB at q
  simp only [Bool.and_eq_true, decide_eq_true_eq] at q
  refine PS.weak (ps_raise hc tk (pmk_own PySem.F.excBase_ValueError q.2.1 g q.1 (raises_own q.2.2.1 q.2.2.2) hg hdb)) fun D σ H ⟨H0s, H0, env, Hs, o, Fr, e, q⟩ => ?_
  have e2 := Option.some.inj e
  subst e2
  exact q _ none Hs σ H (Same.refl _) Fr ⟨C, [], rfl, rfl, .none⟩
end
/-! ### try: .. except T as n: y = n -/
def exmB (K : PySem.W.Frag) (C T : Str) (b : Bool) : Bool := decide (PySem.W.exmOne K (.ref (He.ga K C)) (.ref (He.ga K T)) = some b)
def XcC (K : PySem.W.Frag) (mg : Str → Option Value) (T : Str) (tbl : List (Str × Bool)) : Prop := mg T = some (.ref (He.ga K T)) ∧ ∀ q ∈ tbl, exmB K q.1 T q.2 = true
def tryX (tbl : List (Str × Bool)) (ie iy : Nat) (C : Str) (gs : List (Str × D)) (env : En) : Option Out :=
  match env[ie]? with
  | none => none
  | some _ => match tbl.lookup C with
    | some true => some (.nx ((env.set ie .un).set iy (.sh (.exn C gs))))
    | some false => some (.x (.exn C gs) env)
    | none => none
def cTry (tbl : List (Str × Bool)) (ie iy : Nat) (F : Sm) : Sm := fun env => match F env with
  | some (.x (.exn C gs) env') => tryX tbl ie iy C gs env'
  | some (.x _ _) => none
  | o => o
theorem FrOk.unset {K : PySem.W.Frag} {H0s H0 : Hp} {env : En} {Hs H : Hp} {σ : Sg} (F : FrOk K H0s H0 env Hs σ H) (i : Nat) : FrOk K H0s H0 (env.set i .un) Hs (σ.set i none) H := by
  have other : ∀ (j : Nat) (s : Slot), s ≠ .un → (env.set i .un)[j]? = some s → i ≠ j ∧ env[j]? = some s := fun j s hs h => by
    by_cases hj : i = j
    · subst hj
      by_cases hl : i < env.length
      · rw [List.getElem?_set_self hl] at h
        exact absurd (Option.some.inj h).symm hs
      · rw [List.getElem?_eq_none (by simpa using hl)] at h; cases h
    · rw [List.getElem?_set_ne hj] at h
      exact ⟨hj, h⟩
  refine ⟨F.ext, by rw [List.length_set, List.length_set]; exact F.len, fun j d h => ?_, fun j d h => ?_, fun j k d d' p h1 h2 h3 h4 => ?_⟩
  · obtain ⟨hj, h'⟩ := other j (.sh d) (by simp) h
    obtain ⟨v, a, b⟩ := F.sh j d h'
    exact ⟨v, by rw [List.getElem?_set_ne hj]; exact a, b⟩
  · obtain ⟨hj, h'⟩ := other j (.own d) (by simp) h
    obtain ⟨p, o, a, b⟩ := F.own j d h'
    exact ⟨p, o, by rw [List.getElem?_set_ne hj]; exact a, b⟩
  · obtain ⟨hj, h1'⟩ := other j (.own d) (by simp) h1
    obtain ⟨hk, h2'⟩ := other k (.own d') (by simp) h2
    rw [List.getElem?_set_ne hj] at h3
    rw [List.getElem?_set_ne hk] at h4
    exact F.sep j k d d' p h1' h2' h3 h4
section
variable {X : Cx} {W : WX} {T n y : Str} {ie iy : Nat} {body : List Stmt} {F : Sm} {np np2 yp pos pos' pos2 : Pos} {tbl : List (Str × Bool)}
theorem psd_try (hs : X.stack = X.env :: X.outer) (hf : X.env.frame = some X.env.locals) (hN : X.N.Nodup) (hi : X.N[ie]? = some n) (hln : X.env.kindOf n = some .local) (hy : X.N[iy]? = some y) (hyl : Loc X.env.scope y) (hyf : X.fn y = true ∨ X.env.scope.names.lookup y = some .local)
    (hvn : Vis X.env.scope n) (hne : ie ≠ iy) (J : XcC X.K X.mg T tbl) (hg : Gl X T) (tk : Takes X W)
    (hb : ∀ (W' : WX) (pn : List (Addr × Obj)) (xe : Value → Shared → Prop), Takes (X.tr pn xe) W' → PSsD (X.tr pn xe) W' body F)
    (hd : (n == ("__debug__" : Str)) = false := by decide) (hcd : (n == ("__classdict__" : Str)) = false := by decide) (hdT : (T == ("__debug__" : Str)) = false := by decide)
    (hsw : swapsWith (.Name n np2) (some (.Name y yp)) pos2.line X.env = pure false := by rfl) :
    PSD X W (.Try body [.ExceptHandler (some (.Name T np)) (some n) [.Assign [.Name y yp] (.Name n np2) pos2] pos'] [] [] pos) (cTry tbl ie iy F) := by
  refine PS.weak (ps_try_keep (c := .ref (He.ga X.K T)) (tb := fun W' => rdS X.K W' F) (ts := fun _ _ _ => tAsg (tVar ie) (gName iy)) hs hf hN hi hln ⟨hg, hdT, .inl J.1⟩ tk (fun W' pn xe tk' => hb W' pn xe tk') fun a oe cls d pn hz =>
    pss_one (ps_set (X := X.suite a ((a, oe) :: pn)) hN hy hyl (pe_var (X := X.suite a ((a, oe) :: pn)) hi hvn hd hcd) hsw hyf)) fun D σ H ⟨H0s, H0, env, Hs, o, Fr, e, q⟩ => ?_
  show rdS X.K (wKeep X.K (.ref (He.ga X.K T)) ie (fun _ _ _ => tAsg (tVar ie) (gName iy)) W D) F D σ H
  unfold cTry at e
  cases eF : F env with
  | none => rw [eF] at e; cases e
  | some u =>
    rw [eF] at e
    refine ⟨H0s, H0, env, Hs, u, Fr, eF, ?_⟩
    cases u with
    | nx e1 => cases e; exact q
    | bk e1 => cases e; exact q
    | ct e1 => cases e; exact q
    | rt e1 => cases e; exact q
    | x ex e1 =>
      intro cls dd Hs1 σ1 H1 s1 F1 rx
      obtain ⟨C, gs, e3, rfl, rd⟩ := rx
      subst e3
      have e : tryX tbl ie iy C gs e1 = some o := e
      unfold tryX at e
      cases el : e1[ie]? with
      | none => rw [el] at e; cases e
      | some sl =>
        rw [el] at e
        have hlt : ie < σ1.length := by
          rw [← F1.len]
          exact (List.getElem?_eq_some_iff.mp el).1
        cases et : tbl.lookup C with
        | none => rw [et] at e; cases e
        | some b =>
          rw [et] at e
          have hx := of_decide_eq_true (J.2 _ (lookup_mem et))
          refine ⟨b, hx, fun hb a na => ?_, fun hb => ?_⟩
          · subst hb
            have e4 := Option.some.inj e
            subst e4
            have n1 : Hs1 a = none := F1.sub.free na
            have F2 := (F1.ext' (Ext.laid (o := Xv (.ref (He.ga X.K C)) dd a) (Ext.refl F1.sub) na)).unset ie
            have F3 := F2.set (.exn upd_same (rd.mono (same_upd n1))) iy
            refine ⟨.ref a, List.getElem?_set_self hlt, ?_⟩
            show D.nx (((σ1.set ie (some (.ref a))).set iy (some (.ref a))).set ie none) _
            rw [List.set_comm _ _ (Ne.symm hne), List.set_set]
            exact q _ _ _ (s1.trans (same_upd n1)) F3
          · subst hb
            have e4 := Option.some.inj e
            subst e4
            exact q _ dd Hs1 σ1 H1 s1 F1 ⟨C, gs, rfl, rfl, rd⟩
end
/-! ### isinstance of what was caught -/
def exTyB (K : PySem.W.Frag) (C : Str) : Bool := (PySem.W.clsIn K (He.ga K C)).isSome && (decide (PySem.W.findIn K (.ref (He.ga K C)) "__getattribute__" = some (some (.builtin "BaseException.__getattribute__"))) && (decide (PySem.W.findIn K (.ref (He.ga K C)) "__getattr__" = some none) &&
  (decide (PySem.W.subIn K (.ref (He.ga K C)) (.type "BaseException") = some true) && (decide (PySem.W.findIn K (.ref (He.ga K C)) "__class__" = some (some (.builtin "object.__class__"))) && (decide (PySem.W.specialIn K (.builtin "object.__class__") "__get__" = some (some (.builtin "getset_descriptor.__get__"))) &&
  (decide (PySem.W.takesIn K (.builtin "object.__class__") = some true) && decide (PySem.W.mroIn K (He.ga K C) (.type "object") = some true)))))))
section
variable {X : Cx} {pins : List (Addr × Obj)} {σ : Sg} {H : Hp} {s : Shared}
def XdIn (H : Hp) (d : Option Addr) : Prop := ∀ x, d = some x → ∃ fs, H x = some (.xd fs)
theorem RepD.xdIn {K : PySem.W.Frag} {Hs : Hp} {d : Option Addr} {gs : List (Str × D)} (r : RepD K Hs d gs) (sb : Same Hs H) : XdIn H d := fun x e => by
  cases r with
  | none => cases e
  | some h1 r1 =>
    cases e
    exact ⟨_, sb _ _ h1⟩
theorem exn_at {a C : Addr} {d : Option Addr} (I : Inv X pins σ H s) (h : H a = some (Xv (.ref C) d a)) (hd : XdIn H d) : ∃ (oe : Obj) (od : Option Obj), PySem.W.InstAt s.heap a oe C od ∧ ∀ x, d = some x → ∃ o, od = some o ∧ s.heap.get? x = some o := by
  obtain ⟨⟨oe, vs, ho, hz, hv⟩, _, _⟩ := I.hok a _ h
  have no : PySem.W.notCls oe = true := by unfold PySem.W.notCls; rw [hv]
  cases d with
  | none => exact ⟨oe, none, ⟨ho, hz.1, no, by rw [hz.2]; trivial⟩, fun x e => nomatch e⟩
  | some x =>
    obtain ⟨fs, hx⟩ := hd x rfl
    obtain ⟨mA, ⟨o, es, ep, e, c⟩, r⟩ := I.hok x _ hx
    exact ⟨oe, some o, ⟨ho, hz.1, no, by rw [hz.2]; exact e⟩, fun y ey => by cases ey; exact ⟨o, rfl, e⟩⟩
theorem exn_kit {a : Addr} {C : Str} {d : Option Addr} (I : Inv X pins σ H s) (h : H a = some (Xv (.ref (He.ga X.K C)) d a)) (hd : XdIn H d) (T : exTyB X.K C = true) : ∃ P : Heap → Prop, PySem.W.KitX X.K (.ref a) (.ref (He.ga X.K C)) P ∧ P s.heap := by
  obtain ⟨oe, od, J, _⟩ := exn_at I h hd
  unfold exTyB at T
  simp only [Bool.and_eq_true, decide_eq_true_eq] at T
  obtain ⟨t1, t2, t3, t4, t5, t6, t7, t8⟩ := T
  exact ⟨_, PySem.W.kitx_exc t1 t2 t3 t4 t5 t6 t7 t8, J⟩
def rIsx (K : PySem.W.Frag) : List V → Hp → VK → Prop := fun xs H Q => ∃ (a : Addr) (C : Str) (d : Option Addr) (c : V) (u : Value) (b : Bool), xs = [.ref a, c] ∧ ClsV c u ∧ H a = some (Xv (.ref (He.ga K C)) d a) ∧ XdIn H d ∧ exTyB K C = true ∧ PySem.W.kitOne K (.ref (He.ga K C)) u = some b ∧ Q (.bl b) H
def rIsxT (K : PySem.W.Frag) : List V → Hp → VK → Prop := fun xs H Q => ∃ (a tp : Addr) (C : Str) (d : Option Addr) (cs : List V) (us : List Value) (b : Bool), xs = [.ref a, .ref tp] ∧ H tp = some (.tup cs) ∧ Paired ClsV cs us ∧ H a = some (Xv (.ref (He.ga K C)) d a) ∧ XdIn H d ∧ exTyB K C = true ∧ PySem.W.kitAny K (.ref (He.ga K C)) us = some b ∧ Q (.bl b) H
theorem call_isx : CallR X (.builtin "isinstance") (rIsx X.K) := by
  intro pins s σ H xs us Q I r h
  obtain ⟨a, C, d, c, u, b, rfl, k, ha, hd, T, e, q⟩ := h
  obtain ⟨u1, u2, rfl, r1, r2⟩ := vals2 r
  have e2 := k.eq r2
  subst e2
  cases (show u1 = Value.ref a from r1)
  obtain ⟨P, Z, p⟩ := exn_kit I ha hd T
  exact PySem.W.kia_one Z I.kIn p e (fun z => nomatch z) fun tk => ⟨.bl b, H, I.tok tk, rfl, q⟩
theorem call_isxT : CallR X (.builtin "isinstance") (rIsxT X.K) := by
  intro pins s σ H xs us Q I r h
  obtain ⟨a, tp, C, d, cs, ws, b, rfl, hT, k, ha, hd, T, e, q⟩ := h
  obtain ⟨u1, u2, rfl, r1, r2⟩ := vals2 r
  cases (show u1 = Value.ref a from r1)
  cases (show u2 = Value.ref tp from r2)
  obtain ⟨P, Z, p⟩ := exn_kit I ha hd T
  obtain ⟨_, its, rv, o, h1, h2, n, h3⟩ := I.hok tp _ hT
  have e3 := ClsV.all k rv
  subst e3
  obtain ⟨oc, od, dt, sl⟩ := o
  simp only at h2 h3
  subst h2 h3
  exact PySem.W.kia_tup Z I.kIn p h1 e (fun z => nomatch z) fun tk => ⟨.bl b, H, I.tok tk, rfl, q⟩
end
def kitB1 (K : PySem.W.Frag) (C T : Str) (b : Bool) : Bool := decide (PySem.W.kitOne K (.ref (He.ga K C)) (.ref (He.ga K T)) = some b)
def kitBt (K : PySem.W.Frag) (C : Str) (N : String) (b : Bool) : Bool := decide (PySem.W.kitOne K (.ref (He.ga K C)) (.type N) = some b)
def kitBn (K : PySem.W.Frag) (C : Str) (Ts : List Str) (b : Bool) : Bool := decide (PySem.W.kitAny K (.ref (He.ga K C)) (Ts.map fun T => .ref (He.ga K T)) = some b)
def IsX (K : PySem.W.Frag) (mg : Str → Option Value) (T : Str) (tbl : List (Str × Bool)) : Prop := mg T = some (.ref (He.ga K T)) ∧ ∀ q ∈ tbl, exTyB K q.1 = true ∧ kitB1 K q.1 T q.2 = true
def IsXt (K : PySem.W.Frag) (N : String) (tbl : List (Str × Bool)) : Prop := ∀ q ∈ tbl, exTyB K q.1 = true ∧ kitBt K q.1 N q.2 = true
def IsXn (K : PySem.W.Frag) (mg : Str → Option Value) (Ts : List Str) (tbl : List (Str × Bool)) : Prop := (∀ T ∈ Ts, mg T = some (.ref (He.ga K T))) ∧ ∀ q ∈ tbl, exTyB K q.1 = true ∧ kitBn K q.1 Ts q.2 = true
def cIsX (tbl : List (Str × Bool)) (f : Ev) : Ev := fun env => bindR (f env) fun d => match d with
  | .exn C _ => (tbl.lookup C).map fun b => .v (.bl b)
  | _ => none
/-- the classes of a tuple, written out -/
def ClsL (X : Cx) (es : List Expr) (Ts : List Str) : Prop := PA X es (fun _ H Q => Q (Ts.map fun T => V.ref (He.ga X.K T)) H)
section
variable {X : Cx} {W : WX} {a : Expr} {f : Ev} {T : Str} {N : String} {Ts : List Str} {es : List Expr} {p q tp pos : Pos} {tbl : List (Str × Bool)} {x1 : Nat}
theorem clsL_nil : ClsL X [] [] := PA.weak pa_nil fun _ _ _ q => q
theorem clsL_cons (hg : Gl X T) (hm : X.mg T = some (.ref (He.ga X.K T))) (h : ClsL X es Ts) (hdb : (T == ("__debug__" : Str)) = false := by decide) (hs : starEach (.Name T p :: es) X.env = (false, eval (.Name T p) X.env) :: starEach es X.env := by rfl) : ClsL X (.Name T p :: es) (T :: Ts) :=
  PA.weak (pa_cons (pe_glob (v := .ref (He.ga X.K T)) hg hm rfl hdb) h hs) fun _ _ _ q => q
theorem isx_red {σ : Sg} {H : Hp} {Q : VK} {env : En} {Hs : Hp} {r : Rs} {Q1 : VK} (F : FrE X.K env Hs σ H) (e : cIsX tbl f env = some r) (q : endE X.K (WE W σ) Hs H Q r)
    (k : ∀ (a : Addr) (C : Str) (d : Option Addr) (b : Bool) (Hs1 H1 : Hp), FrE X.K env Hs1 σ H1 → (C, b) ∈ tbl → H1 a = some (Xv (.ref (He.ga X.K C)) d a) → XdIn H1 d → endV X.K Hs1 H1 Q (.v (.bl b)) → Q1 (.ref a) H1) : rdE X.K W f σ H Q1 :=
  rd_bind F e q fun v d Hs1 H1 a1 F1 r1 e1 q1 => by
    split at e1
    · rename_i C gs
      cases hl : tbl.lookup C with
      | none => rw [hl] at e1; cases e1
      | some b =>
        rw [hl] at e1
        have e2 := Option.some.inj e1
        subst e2
        cases r1 with
        | exn h4 r2 => exact k _ C _ b Hs1 H1 F1 (lookup_mem hl) (F1.sub _ _ h4) (r2.xdIn F1.sub) q1
    · cases e1
theorem pd_isX (J : IsX X.K X.mg T tbl) (hg : Gl X "isinstance") (hm : X.mg "isinstance" = none) (hg2 : Gl X T) (ha : PD X W a f) (hdb : (T == ("__debug__" : Str)) = false := by decide)
    (he : starEach [a, .Name T q] X.env = (false, eval a X.env) :: starEach [.Name T q] X.env := by rfl) (he2 : starEach [.Name T q] X.env = (false, eval (.Name T q) X.env) :: starEach [] X.env := by rfl) (hpl : (backTo pos (starEach [.Name T q] X.env)).any (·.1) = false := by rfl) :
    PD X W (.Call (.Name "isinstance" p) [a, .Name T q] [] pos) (cIsX tbl f) :=
  pd_of (pe_callB call_isx hg hm (by decide +kernel) (pa_cons ha (pa_cons (pe_glob (v := .ref (He.ga X.K T)) hg2 J.1 rfl hdb) pa_nil he2) he) (by decide +kernel) (by decide +kernel) he hpl) fun σ H Q env Hs r F e q => isx_red F e q fun a C d b Hs1 H1 F1 hm h1 h2 q1 =>
    ⟨a, C, d, _, _, b, rfl, .own _, h1, h2, (J.2 _ hm).1, of_decide_eq_true (J.2 _ hm).2, endV.here F1.sub q1 (.bl b)⟩
theorem pd_isXt {x : Str} (J : IsXt X.K N tbl) (hg : Gl X "isinstance") (hm : X.mg "isinstance" = none) (hg2 : Gl X x) (hm2 : X.mg x = none) (hv : bootBuiltins x = some (.type N)) (hn : x ≠ "__name__") (ha : PD X W a f) (hdb : (x == ("__debug__" : Str)) = false := by decide)
    (he : starEach [a, .Name x q] X.env = (false, eval a X.env) :: starEach [.Name x q] X.env := by rfl) (he2 : starEach [.Name x q] X.env = (false, eval (.Name x q) X.env) :: starEach [] X.env := by rfl) (hpl : (backTo pos (starEach [.Name x q] X.env)).any (·.1) = false := by rfl) :
    PD X W (.Call (.Name "isinstance" p) [a, .Name x q] [] pos) (cIsX tbl f) :=
  pd_of (pe_callB call_isx hg hm (by decide +kernel) (pa_cons ha (pa_cons (pe_bltn (v := .ty N) hg2 hm2 hv rfl hn hdb) pa_nil he2) he) (by decide +kernel) (by decide +kernel) he hpl) fun σ H Q env Hs r F e q => isx_red F e q fun a C d b Hs1 H1 F1 hm h1 h2 q1 =>
    ⟨a, C, d, _, _, b, rfl, .ty N, h1, h2, (J _ hm).1, of_decide_eq_true (J _ hm).2, endV.here F1.sub q1 (.bl b)⟩
theorem paired_cls (K : PySem.W.Frag) : ∀ Ts : List Str, Paired ClsV (Ts.map fun T => V.ref (He.ga K T)) (Ts.map fun T => Value.ref (He.ga K T))
  | [] => .nil
  | T :: Ts => .cons (.own _) (paired_cls K Ts)
theorem pd_isXn (J : IsXn X.K X.mg Ts tbl) (hlen : Ts.length ≤ 1000) (hg : Gl X "isinstance") (hm : X.mg "isinstance" = none) (hT : ClsL X es Ts) (ha : PD X W a f)
    (he : starEach [a, .Tuple es x1 tp] X.env = (false, eval a X.env) :: starEach [.Tuple es x1 tp] X.env := by rfl) (he2 : starEach [.Tuple es x1 tp] X.env = (false, eval (.Tuple es x1 tp) X.env) :: starEach [] X.env := by rfl) (hpl : (backTo pos (starEach [.Tuple es x1 tp] X.env)).any (·.1) = false := by rfl) :
    PD X W (.Call (.Name "isinstance" p) [a, .Tuple es x1 tp] [] pos) (cIsX tbl f) :=
  pd_of (pe_callB call_isxT hg hm (by decide +kernel) (pa_cons ha (pa_cons (pe_tup hT) pa_nil he2) he) (by decide +kernel) (by decide +kernel) he hpl) fun σ H Q env Hs r F e q => isx_red F e q fun a C d b Hs1 H1 F1 hm h1 h2 q1 => by
    refine ⟨by rw [List.length_map, sizeLine_eq]; omega, fun pt hp => ?_⟩
    have na : a ≠ pt := fun z => by rw [z, hp] at h1; cases h1
    refine ⟨a, pt, C, d, _, _, b, rfl, upd_same, paired_cls X.K Ts, by rw [upd_ne na]; exact h1, fun x e => ?_, (J.2 _ hm).1, of_decide_eq_true (J.2 _ hm).2, q1 (.bl b) Hs1 _ ((Ext.refl F1.sub).laidN hp) (.bl b)⟩
    obtain ⟨fs, hx⟩ := h2 x e
    exact ⟨fs, by rw [upd_ne (fun z => by rw [z, hp] at hx; cases hx)]; exact hx⟩
end
end HD

set_option Elab.async false
set_option linter.all false
set_option maxRecDepth 100000
set_option maxHeartbeats 4000000
/-! HDm: methods of a text with one argument: join, split, startswith. -/
namespace HD
open PySem PySem.Spec PyProof.Rows L2
def D.strs : List D → Option (List Str)
  | [] => some []
  | .str z :: r => (D.strs r).map (z :: ·)
  | _ => none
theorem strs_rep {K : PySem.W.Frag} {H : Hp} : ∀ {ds : List D} {ns : List Str} {vs : List V}, D.strs ds = some ns → Reps K H vs ds → vs = ns.map V.str
  | [], ns, vs, e, r => by
    cases r
    rw [← Option.some.inj e] <;> rfl
  | d :: ds, ns, vs, e, r => by
    cases r with
    | cons h r =>
      unfold D.strs at e
      split at e
      · rename_i heq
        cases heq
      · rename_i i r2 heq
        cases heq
        cases h
        cases e2 : D.strs ds with
        | none => rw [e2] at e; cases e
        | some ms =>
          rw [e2] at e
          rw [← Option.some.inj e, strs_rep e2 r] <;> rfl
      · cases e
theorem reps_strs {K : PySem.W.Frag} {H : Hp} : ∀ ys : List Str, Reps K H (ys.map V.str) (ys.map D.str)
  | [] => .nil
  | y :: ys => .cons (.str y) (reps_strs ys)
/-- a text's method of one argument -/
def cM1 (g : Str → D → Option Vn) (f k : Ev) : Ev := fun env => bindR (f env) fun d => match d with
  | .str a => bindR (k env) fun e => (g a e).map Vn.r
  | _ => none
def rM1 (K : PySem.W.Frag) (g : Str → D → Option Vn) : V → List V → Hp → VK → Prop := fun x xs H Q => ∃ Hs a v e u, x = .str a ∧ xs = [v] ∧ Same Hs H ∧ Rep K Hs v e ∧ g a e = some u ∧ endV K Hs H Q u
section
variable {X : Cx} {W : WX} {o e : Expr} {f k : Ev} {apos pos : Pos} {id : String} {name : Str} {g : Str → D → Option Vn}
theorem MtR.weak {r r' : V → List V → Hp → VK → Prop} (h : MtR X id r) (w : ∀ x xs H Q, r' x xs H Q → r x xs H Q) : MtR X id r' :=
  fun pins s σ H x xs v us Q I rx rs q => h pins s σ H x xs v us Q I rx rs (w x xs H Q q)
theorem pd_m1 (slot : PySem.Slot "str" name id) (ty : typeOf (.builtin id) = pure (.type "method_descriptor")) (rule : MtR X id (rM1 X.K g)) (ho : PD X W o f) (he : PD X W e k)
    (hs : starEach [e] X.env = [(false, eval e X.env)] := by rfl) (hbase : attributeBase o name X.env (eval o X.env) = eval o X.env := by rfl) (hline : (apos.endLine == pos.line) = true := by rfl) :
    PD X W (.Call (.Attribute o name apos) [e] [] pos) (cM1 g f k) :=
  pd_of (pe_m1 slot ty rule ho he hs hbase hline) fun σ H Q env Hs r F e q => rd_bind F e q fun v d Hs1 H1 a1 F1 r1 e1 q1 => by
    split at e1
    · rename_i a
      cases r1
      exact ⟨⟨_, rfl⟩, rd_bind F1 e1 q1 fun v2 d2 Hs2 H2 a2 F2 r2 e2 q2 => by
        obtain ⟨u, h1, rfl⟩ := map_r e2
        exact ⟨Hs2, a, v2, d2, u, rfl, rfl, F2.sub, r2, h1, endV.r q2⟩⟩
    · cases e1
end
def joinD (a : Str) : D → Option Vn
  | .lst l => (D.strs l).bind fun ys => if (ys.map (·.length)).sum + ys.length * a.length ≤ 16777216 then some (.v (.str (Txt.join a ys))) else none
  | .tup l => (D.strs l).bind fun ys => if (ys.map (·.length)).sum + ys.length * a.length ≤ 16777216 then some (.v (.str (Txt.join a ys))) else none
  | _ => none
def splitD (a : Str) : D → Option Vn
  | .str b => if (b.length == 0) = false ∧ a.length + 2 ≤ sizeLine then some (.n (.lst ((Txt.split a b).map .str))) else none
  | _ => none
def startsD (a : Str) : D → Option Vn
  | .str b => some (.v (.bl (Txt.startswith a b)))
  | _ => none
section
variable {X : Cx}
theorem md_join : MtR X "str.join" (rM1 X.K joinD) := MtR.weak mt_join fun x xs H Q ⟨Hs, a, v, e, u, e1, e2, sb, r, eg, q⟩ => by
  subst e1
  subst e2
  unfold joinD at eg
  split at eg
  · rename_i l
    rcases es : D.strs l with _ | ys
    · rw [es] at eg; cases eg
    · rw [es] at eg
      have eg2 : (if (ys.map (·.length)).sum + ys.length * a.length ≤ 16777216 then some (Vn.v (.str (Txt.join a ys))) else none) = some u := eg
      split at eg2
      · rename_i hz
        have e4 := Option.some.inj eg2
        subst e4
        cases r with
        | lst h1 r1 => exact ⟨_, _, ys, rfl, rfl, .inl (by rw [← strs_rep es r1]; exact SqL.of (sb _ _ h1)), hz, endV.here sb q (.str _)⟩
      · cases eg2
  · rename_i l
    rcases es : D.strs l with _ | ys
    · rw [es] at eg; cases eg
    · rw [es] at eg
      have eg2 : (if (ys.map (·.length)).sum + ys.length * a.length ≤ 16777216 then some (Vn.v (.str (Txt.join a ys))) else none) = some u := eg
      split at eg2
      · rename_i hz
        have e4 := Option.some.inj eg2
        subst e4
        cases r with
        | tup h1 r1 => exact ⟨_, _, ys, rfl, rfl, .inr (by rw [← strs_rep es r1]; exact same_sqt sb h1), hz, endV.here sb q (.str _)⟩
      · cases eg2
  · cases eg
theorem md_split : MtR X "str.split" (rM1 X.K splitD) := MtR.weak mt_split fun x xs H Q ⟨Hs, a, v, e, u, e1, e2, sb, r, eg, q⟩ => by
  subst e1
  subst e2
  unfold splitD at eg
  split at eg
  · split at eg
    · rename_i b hz
      have e4 := Option.some.inj eg
      subst e4
      cases r
      exact ⟨_, _, rfl, rfl, hz.1, hz.2, fun p hp => endV.newN sb q hp (.lst (reps_strs _))⟩
    · cases eg
  · cases eg
theorem md_starts : MtR X "str.startswith" (rM1 X.K startsD) := MtR.weak mt_startswith fun x xs H Q ⟨Hs, a, v, e, u, e1, e2, sb, r, eg, q⟩ => by
  subst e1
  subst e2
  unfold startsD at eg
  split at eg
  · have e4 := Option.some.inj eg
    subst e4
    cases r
    exact ⟨_, _, rfl, rfl, endV.here sb q (.bl _)⟩
  · cases eg
end
section
variable {X : Cx} {W : WX} {o e : Expr} {f k : Ev} {apos pos : Pos}
theorem pd_join (ho : PD X W o f) (he : PD X W e k) (hs : starEach [e] X.env = [(false, eval e X.env)] := by rfl) (hbase : attributeBase o "join" X.env (eval o X.env) = eval o X.env := by rfl) (hline : (apos.endLine == pos.line) = true := by rfl) :
    PD X W (.Call (.Attribute o "join" apos) [e] [] pos) (cM1 joinD f k) := pd_m1 F.slot_str_join F.type_str_join md_join ho he hs hbase hline
theorem pd_split (ho : PD X W o f) (he : PD X W e k) (hs : starEach [e] X.env = [(false, eval e X.env)] := by rfl) (hbase : attributeBase o "split" X.env (eval o X.env) = eval o X.env := by rfl) (hline : (apos.endLine == pos.line) = true := by rfl) :
    PD X W (.Call (.Attribute o "split" apos) [e] [] pos) (cM1 splitD f k) := pd_m1 F.slot_str_split F.type_str_split md_split ho he hs hbase hline
theorem pd_starts (ho : PD X W o f) (he : PD X W e k) (hs : starEach [e] X.env = [(false, eval e X.env)] := by rfl) (hbase : attributeBase o "startswith" X.env (eval o X.env) = eval o X.env := by rfl) (hline : (apos.endLine == pos.line) = true := by rfl) :
    PD X W (.Call (.Attribute o "startswith" apos) [e] [] pos) (cM1 startsD f k) := pd_m1 F.slot_str_startswith F.type_str_startswith md_starts ho he hs hbase hline
end
end HD

set_option Elab.async false
set_option linter.all false
set_option maxRecDepth 100000
set_option maxHeartbeats 4000000
/-! HDn: a table of the module, its keys texts, its values whole numbers: TABLE[x], x not in TABLE, of keys that it has. -/
namespace HD
open PySem PySem.Spec PyProof.Rows L2
/-- the module's x is a table with these rows -/
def Kt (mg : Str → Option Value) (K : PySem.W.Frag) (w : World) (x : Str) (tbl : List (Str × Int)) : Prop :=
  mg x = some (.ref (He.ga K x)) ∧ (∃ es n, K.lookup (He.ga K x) = some ⟨.type "dict", none, .dict es n, #[]⟩ ∧ PySem.W.KeysLit w.params es.toList ∧ (He.ga K x == sysModules) = false) ∧
    ∀ z i, tbl.lookup z = some i → ∃ u, PySem.W.nsIn K (He.ga K x) z = some (some u) ∧ RelV (.int i) u
def cIxK (tbl : List (Str × Int)) (f : Ev) : Ev := fun env => bindR (f env) fun d => match d with
  | .str z => (tbl.lookup z).map fun i => .v (.int i)
  | _ => none
def cNotK (tbl : List (Str × Int)) (f : Ev) : Ev := fun env => bindR (f env) fun d => match d with
  | .str z => (tbl.lookup z).map fun _ => .v (.bl false)
  | _ => none
def rNotK (a : Addr) (tbl : List (Str × Int)) : R2 := fun x y H Q => ∃ z i, x = .str z ∧ y = .ref a ∧ tbl.lookup z = some i ∧ Q (.bl false) H
theorem or_notK {X : Cx} {x : Str} {tbl : List (Str × Int)} (c : Kt X.mg X.K X.w x tbl) : OpR X (compareOp .NotIn) (rNotK (He.ga X.K x) tbl) := by
  obtain ⟨_, ⟨es, n, hl, hk, low⟩, hv⟩ := c
  refine OpR.weak (op_notIn_kd (es := es) (n := n) ⟨hl, hk, low⟩) fun x1 y H Q h => ?_
  obtain ⟨z, i, rfl, rfl, hz, q⟩ := h
  obtain ⟨u0, e, _⟩ := hv z i hz
  exact ⟨z, some u0, rfl, rfl, e, q⟩
section
variable {X : Cx} {W : WX} {a : Expr} {f : Ev} {x : Str} {tbl : List (Str × Int)} {p pos : Pos}
theorem pd_ixK (c : Kt X.mg X.K X.w x tbl) (hg : Gl X x) (hb : PD X W a f) (hs : PlainIx a := by exact fun _ _ => rfl) (hd : (x == ("__debug__" : Str)) = false := by decide) : PD X W (.Subscript (.Name x p) a pos) (cIxK tbl f) :=
  pd_of (pe_ix ix_kdict (pe_glob (v := .ref (He.ga X.K x)) hg c.1 rfl hd) hb hs) fun σ H Q env Hs r F e q => rd_bind F e q fun v d Hs1 H1 a1 F1 r1 e1 q1 => by
    split at e1
    · rename_i z
      rcases ez : tbl.lookup z with _ | i
      · rw [ez] at e1; cases e1
      · rw [ez] at e1
        have e3 : some (Rs.v (.int i)) = some r := e1
        have e4 := Option.some.inj e3
        subst e4
        cases r1
        obtain ⟨_, ⟨es, n, hl, hk, low⟩, hv⟩ := c
        obtain ⟨u0, e5, ru⟩ := hv z i ez
        exact ⟨_, _, .int i, rfl, rfl, ⟨es, n, u0, hl, hk, e5, ru⟩, endV.here F1.sub q1 (.int i)⟩
    · cases e1
theorem ptd_notK (c : Kt X.mg X.K X.w x tbl) (hg : Gl X x) (ha : PD X W a f) (hm : behindInMarks .NotIn (.Name x p) = false) (hd : (x == ("__debug__" : Str)) = false := by decide) : PTD X W (.Compare a [.NotIn] [.Name x p] pos) (tBl (cNotK tbl f)) :=
  PT.weak (pt_cmpR (or_notK c) ha (pe_glob (v := .ref (He.ga X.K x)) hg c.1 rfl hd) hm) fun σ H Q ⟨env, Hs, r, F, e, q⟩ => by
    unfold tBl at e
    split at e
    · rename_i e' ef
      have e2 := (Option.some.inj e)
      subst e2
      refine rd_bind (Q := fun x H' => ∃ k, x = V.bl k ∧ Q k H') (r := .x e') F ef q fun v d Hs1 H1 a1 F1 r1 e1 q1 => ?_
      split at e1
      · rename_i z
        rcases ez : tbl.lookup z with _ | i
        · rw [ez] at e1; cases e1
        · rw [ez] at e1; cases e1
      · cases e1
    · rename_i b' ef
      have e2 := (Option.some.inj e)
      subst e2
      refine rd_bind (Q := fun x H' => ∃ k, x = V.bl k ∧ Q k H') (r := .v (.bl b')) F ef (fun v Hs1 H1 a1 rp => ?_) fun v d Hs1 H1 a1 F1 r1 e1 q1 => ?_
      · cases rp
        exact ⟨_, rfl, q Hs1 H1 a1⟩
      · split at e1
        · rename_i z
          rcases ez : tbl.lookup z with _ | i
          · rw [ez] at e1; cases e1
          · rw [ez] at e1
            have e3 : some (Rs.v (.bl false)) = some (Rs.v (.bl b')) := e1
            cases e3
            cases r1
            exact ⟨z, i, rfl, rfl, ez, endV.here F1.sub q1 (.bl false)⟩
        · cases e1
    · cases e
end
/-- checked in what is looked at -/
theorem kt_of {mg : Str → Option Value} {K : PySem.W.Frag} {w : World} {x : Str} {tbl : List (Str × Int)} (g : mg x = some (.ref (He.ga K x))) (d : ∃ es n, L2.KDict K w (He.ga K x) es n) (v : He.valsB K (He.ga K x) (tbl.map fun q => (q.1, He.Dv.int q.2)) = true) : Kt mg K w x tbl := by
  obtain ⟨es, n, h1, h2, h3⟩ := d
  refine ⟨g, ⟨es, n, h1, h2, h3⟩, fun z i hz => ?_⟩
  have hm : (z, i) ∈ tbl := by
    revert hz
    induction tbl with
    | nil => intro h; cases h
    | cons q l ih =>
      intro h
      rw [List.lookup_cons] at h
      split at h
      · rename_i hb
        have e1 : z = q.1 := eq_of_beq hb
        have e2 : q.2 = i := Option.some.inj h
        rw [e1, ← e2]
        exact List.mem_cons_self ..
      · refine List.mem_cons_of_mem _ (ih ?_ h)
        have := v
        rw [List.map_cons] at this
        unfold He.valsB at this ⊢
        rw [List.all_cons, Bool.and_eq_true] at this
        exact this.2
  exact He.valsB_ok v (q := (z, He.Dv.int i)) (List.mem_map.2 ⟨_, hm, rfl⟩)
/-- the hook with tables -/
abbrev hookT (fa : List He.Fa) (fn : List He.DefD) (ts : List He.Tab) (ex : PySem.W.Frag → Bool) : PySem.W.Hook := He.hookX 4 fa fn ts [] ex
end HD

set_option Elab.async false
set_option linter.all false
set_option maxRecDepth 100000
set_option maxHeartbeats 4000000
/-! HDo: sorted of a list of tuples of four whole numbers. -/
namespace HD
open PySem PySem.Spec PyProof.Rows L2 SrtO
abbrev Q4 := Int × Int × Int × Int
def lt4 (p q : Q4) : Bool := if p.1 = q.1 then if p.2.1 = q.2.1 then if p.2.2.1 = q.2.2.1 then decide (p.2.2.2 < q.2.2.2) else decide (p.2.2.1 < q.2.2.1) else decide (p.2.1 < q.2.1) else decide (p.1 < q.1)
theorem lt4_iff {p q : Q4} : lt4 p q = true ↔ p.1 < q.1 ∨ (p.1 = q.1 ∧ (p.2.1 < q.2.1 ∨ (p.2.1 = q.2.1 ∧ (p.2.2.1 < q.2.2.1 ∨ (p.2.2.1 = q.2.2.1 ∧ p.2.2.2 < q.2.2.2))))) := by
  unfold lt4
  by_cases e1 : p.1 = q.1
  · rw [if_pos e1]
    by_cases e2 : p.2.1 = q.2.1
    · rw [if_pos e2]
      by_cases e3 : p.2.2.1 = q.2.2.1
      · rw [if_pos e3, decide_eq_true_eq]
        omega
      · rw [if_neg e3, decide_eq_true_eq]
        omega
    · rw [if_neg e2, decide_eq_true_eq]
      omega
  · rw [if_neg e1, decide_eq_true_eq]
    omega
theorem lt4_no {p q : Q4} : lt4 p q = false ↔ ¬ (p.1 < q.1 ∨ (p.1 = q.1 ∧ (p.2.1 < q.2.1 ∨ (p.2.1 = q.2.1 ∧ (p.2.2.1 < q.2.2.1 ∨ (p.2.2.1 = q.2.2.1 ∧ p.2.2.2 < q.2.2.2)))))) := by
  rw [← lt4_iff]
  cases lt4 p q <;> simp
theorem swo4 {α : Type} (k : α → Q4) : Swo fun v u => lt4 (k v) (k u) := by
  refine ⟨fun x y h => ?_, fun x y z h1 h2 => ?_⟩
  · have a := lt4_iff.mp h
    refine lt4_no.mpr ?_
    omega
  · have a := lt4_no.mp h1
    have b := lt4_no.mp h2
    refine lt4_no.mpr ?_
    omega
theorem eqv4 {x u : Q4} : eqv lt4 x u = true ↔ x = u := by
  constructor
  · intro h
    obtain ⟨h1, h2⟩ := eqv_iff.mp h
    have a := lt4_no.mp h1
    have b := lt4_no.mp h2
    obtain ⟨x1, x2, x3, x4⟩ := x
    obtain ⟨u1, u2, u3, u4⟩ := u
    simp only at a b
    have e1 : x1 = u1 := by omega
    have e2 : x2 = u2 := by omega
    have e3 : x3 = u3 := by omega
    have e4 : x4 = u4 := by omega
    rw [e1, e2, e3, e4]
  · intro h
    subst h
    exact eqv_iff.mpr ⟨(swo4 id).refl x, (swo4 id).refl x⟩
theorem stb_perm {l m : List Q4} (h : l.Perm m) : Stb lt4 l m := by
  refine ⟨h, fun x => ?_⟩
  have e : ∀ k : List Q4, k.filter (eqv lt4 x) = List.replicate (k.count x) x := fun k => by
    rw [← List.filter_beq]
    congr 1
    funext u
    rcases hb : (u == x) with _ | _
    · rcases he : eqv lt4 x u with _ | _
      · rfl
      · have := eqv4.1 he
        rw [this] at hb
        simp at hb
    · have e2 : u = x := eq_of_beq hb
      rw [e2]
      exact eqv4.2 rfl
  rw [e, e, h.count_eq]
/-- sorted -/
noncomputable def sort4 (qs : List Q4) : List Q4 := open Classical in if h : ∃ m, Srtd lt4 m ∧ m.Perm qs then h.choose else []
theorem sort4_eq {qs m : List Q4} (h1 : Srtd lt4 m) (h2 : m.Perm qs) : sort4 qs = m := by
  have ex : ∃ m, Srtd lt4 m ∧ m.Perm qs := ⟨m, h1, h2⟩
  have s := ex.choose_spec
  unfold sort4
  rw [dif_pos ex]
  exact stb_uniq (swo4 id) s.1 h1 (stb_perm (s.2.trans h2.symm))
section
variable {prog : Program} {w : World} {A : Around} {E : Value → Shared → Prop} {s : Shared}
def Is4 (h : Heap) (v : Value) (x : Q4) : Prop := ∃ a o t1 t2 t3 t4 n, v = .ref a ∧ h.get? a = some o ∧ o.cls = .type "tuple" ∧ o.data = .seq #[.int x.1 t1, .int x.2.1 t2, .int x.2.2.1 t3, .int x.2.2.2 t4] n
theorem Is4.keeps {h h' : Heap} {v : Value} {x : Q4} (p : Is4 h v x) (k : ∀ b o, h.get? b = some o → o.cls = .type "tuple" → h'.get? b = some o) : Is4 h' v x := by
  obtain ⟨a, o, t1, t2, t3, t4, n, e, ho, hc, hd⟩ := p
  exact ⟨a, o, t1, t2, t3, t4, n, e, k _ _ ho hc, hc, hd⟩
theorem four_cmp {vs : List Value} {k : Value → Q4} (hp : ∀ v ∈ vs, Is4 s.heap v (k v)) : Cmp prog w A s (tuples' true) (fun p => p.1 ∈ vs) (lt2 fun v u => lt4 (k v) (k u)) := by
  intro p q hm hm'
  have h1 := hp _ hm
  have h2 := hp _ hm'
  show wpAny (model prog w) A (keyLt' (tuples' true) p.1 q.1) (fun r s' => s' = s ∧ r = lt4 (k p.1) (k q.1)) (fun _ _ => False) s
  unfold lt4
  generalize k p.1 = X at h1 ⊢
  generalize k q.1 = Y at h2 ⊢
  obtain ⟨x1, x2, x3, x4⟩ := X
  obtain ⟨y1, y2, y3, y4⟩ := Y
  obtain ⟨a, o, t1, t2, t3, t4, n, e, ho, hc, hd⟩ := h1
  obtain ⟨a', o', u1, u2, u3, u4, n', e', ho', hc', hd'⟩ := h2
  simp only at hd hd' ⊢
  rw [e, e']
  refine PySem.W.kat_lt ho hd ho' hd' ?_
  show PySem.W.KatLex prog w A true (decide (4 < 4)) _ [(.int x1 t1, .int y1 u1), (.int x2 t2, .int y2 u2), (.int x3 t3, .int y3 u3), (.int x4 t4, .int y4 u4)] 0 s
  refine PySem.W.kat_cons (SeqAt.EqAt.int_int x1 t1 y1 u1 prog w _ _ ?_)
  refine PySem.W.kat_go (fun c1 => ?_) (fun c1 => ?_)
  · have z1 : x1 = y1 := by simpa using c1
    rw [if_pos z1]
    refine PySem.W.kat_yes (PySem.W.kat_cons (SeqAt.EqAt.int_int x2 t2 y2 u2 prog w _ _ ?_))
    refine PySem.W.kat_go (fun c2 => ?_) (fun c2 => ?_)
    · have z2 : x2 = y2 := by simpa using c2
      rw [if_pos z2]
      refine PySem.W.kat_yes (PySem.W.kat_cons (SeqAt.EqAt.int_int x3 t3 y3 u3 prog w _ _ ?_))
      refine PySem.W.kat_go (fun c3 => ?_) (fun c3 => ?_)
      · have z3 : x3 = y3 := by simpa using c3
        rw [if_pos z3]
        refine PySem.W.kat_yes (PySem.W.kat_cons (SeqAt.EqAt.int_int x4 t4 y4 u4 prog w _ _ ?_))
        refine PySem.W.kat_go (fun c4 => ?_) (fun c4 => ?_)
        · have z4 : x4 = y4 := by simpa using c4
          refine PySem.W.kat_yes (PySem.W.kat_nil ⟨rfl, ?_⟩)
          rw [z4]
          exact (decide_eq_false (Int.lt_irrefl _)).symm
        · exact PySem.W.kat_no (PySem.W.kat_one _ _ (PyProof.Rows.lt_int ⟨rfl, rfl⟩))
      · have z3 : ¬ x3 = y3 := by simpa using c3
        rw [if_neg z3]
        exact PySem.W.kat_no (PySem.W.kat_one _ _ (PyProof.Rows.lt_int ⟨rfl, rfl⟩))
    · have z2 : ¬ x2 = y2 := by simpa using c2
      rw [if_neg z2]
      exact PySem.W.kat_no (PySem.W.kat_one _ _ (PyProof.Rows.lt_int ⟨rfl, rfl⟩))
  · have z1 : ¬ x1 = y1 := by simpa using c1
    rw [if_neg z1]
    exact PySem.W.kat_no (oneLt_int ⟨rfl, rfl⟩)
theorem firsts4 {h : Heap} {k : Value → Q4} (vs : List Value) (hp : ∀ v ∈ vs, Is4 h v (k v)) : ∃ fs : List Value, PySem.W.KatTups h vs fs ∧ fs.length = vs.length ∧ ∀ f ∈ fs, ∃ x t, f = Value.int x t := by
  induction vs with
  | nil => exact ⟨[], .nil, rfl, nofun⟩
  | cons v vs ih =>
    have ⟨fs, tups, len, whole⟩ := ih fun u hu => hp u (.tail _ hu)
    have ⟨_, _, t1, _, _, _, _, e, lies, cl, dt⟩ := hp v (.head _)
    subst e
    exact ⟨.int (k _).1 t1 :: fs, .cons lies cl dt rfl tups, congrArg (· + 1) len, List.forall_mem_cons.2 ⟨⟨_, t1, rfl⟩, whole⟩⟩
theorem four_sortable {a : Addr} {vs : List Value} {k : Value → Q4} (h0 : 0 < vs.length) (hp : ∀ v ∈ vs, Is4 s.heap v (k v)) (ha : ∀ o, s.heap.get? a = some o → o.cls ≠ .type "tuple") : SortableO prog w A s a vs fun v u => lt4 (k v) (k u) := fun g keep => by
  have here : ∀ v ∈ vs, Is4 g v (k v) := fun v hm => (hp v hm).keeps fun b o e c => keep b o (fun z => ha o (z ▸ e) c) e
  obtain ⟨fs, tups, len, whole⟩ := firsts4 vs here
  have unlike : (Value.type "int" != Value.type "tuple") = true := by first | decide +kernel | decide
  exact ⟨tuples' true, fun Q E hq => PySem.W.kat_kind (T := .type "int") tups (len ▸ h0) (fun f hf => match f, whole f hf with | _, ⟨_, _, rfl⟩ => PySem.W.Looks.now) (by rfl) (unlike ▸ hq), four_cmp here⟩
end
end HD
namespace HD
open PySem PySem.Spec PyProof.Rows L2 SrtO
section
variable {prog : Program} {w : World} {A : Around} {E : Value → Shared → Prop} {s : Shared}
theorem sorted_4 {l : Addr} {vs : List Value} {k : Value → Q4} {Q : Value → Shared → Prop} (hl : s.heap.IsList l vs.toArray) (hz : vs.length ≤ sizeLine) (hp : ∀ v ∈ vs, Is4 s.heap v (k v))
    (h : ∀ (h' : Heap) (d : Addr) (out : List Value), Srtd (fun v u => lt4 (k v) (k u)) out → Stb (fun v u => lt4 (k v) (k u)) out vs → (∀ b o, s.heap.get? b = some o → h'.get? b = some o) → s.heap.objs.size ≤ d → (∃ n, h'.get? d = some (seqObj "list" out.toArray n)) → Q (.ref d) { s with heap := h' }) :
    wpAny (model prog w) A (call (.builtin "sorted") [.ref l]) Q E s := by
  refine sorted_ord (swo4 k) hl hz (fun h2 h₁ a ha kp => ?_) fun out h1 h2 => ?_
  · refine four_sortable (s := { s with heap := h₁ }) (by omega) (fun v hm => (hp v hm).keeps fun b o e _ => (kp b o e).2) fun o e => ?_
    have e2 : some o = some (seqObj "list" vs.toArray 0) := e.symm.trans ha
    cases e2
    intro hc
    have c' : Value.type "list" = Value.type "tuple" := hc
    injection c' with c''
    exact absurd c'' (by decide)
  · obtain ⟨ep, he'⟩ := PyProof.Rows.sortedAll_at s.heap vs out.toArray
    exact h _ _ out h1 h2 (fun _ _ => PyProof.Rows.sortedAll_old) (Nat.le_succ _) ⟨ep, he'⟩
end
/-- four whole numbers as data -/
def d4 (x : Q4) : D := .tup [.int x.1, .int x.2.1, .int x.2.2.1, .int x.2.2.2]
def D.q4 : List D → Option (List Q4)
  | [] => some []
  | .tup [.int a, .int b, .int c, .int d] :: r => (D.q4 r).map ((a, b, c, d) :: ·)
  | _ => none
noncomputable def sortC : List D → Option Vn
  | [.lst l] => (D.q4 l).map fun qs => .n (.lst ((sort4 qs).map d4))
  | _ => none
/-- the values of these tuples -/
inductive R4 (K : PySem.W.Frag) (H : Hp) : List V → List Q4 → Prop where
  | nil : R4 K H [] []
  | cons {t : Addr} {x : Q4} {vs : List V} {qs : List Q4} : SqU K H t [.int x.1, .int x.2.1, .int x.2.2.1, .int x.2.2.2] → R4 K H vs qs → R4 K H (.ref t :: vs) (x :: qs)
theorem q4_rep {K : PySem.W.Frag} {H : Hp} : ∀ {ds : List D} {qs : List Q4} {vs : List V}, D.q4 ds = some qs → Reps K H vs ds → R4 K H vs qs
  | [], qs, vs, e, r => by
    cases r
    rw [← Option.some.inj e]
    exact .nil
  | d :: ds, qs, vs, e, r => by
    cases r with
    | cons h r =>
      unfold D.q4 at e
      split at e
      · rename_i heq
        cases heq
      · rename_i a b c d' r2 heq
        cases heq
        cases e2 : D.q4 ds with
        | none => rw [e2] at e; cases e
        | some ms =>
          rw [e2] at e
          rw [← Option.some.inj e]
          cases h with
          | tup h1 r1 =>
            have e3 := ints_rep (ds := [.int a, .int b, .int c, .int d']) (ns := [a, b, c, d']) rfl r1
            subst e3
            exact .cons h1 (q4_rep e2 r)
      · cases e
theorem R4.len {K : PySem.W.Frag} {H : Hp} {vs : List V} {qs : List Q4} (r : R4 K H vs qs) : vs.length = qs.length := by
  induction r with
  | nil => rfl
  | cons _ _ ih => rw [List.length_cons, List.length_cons, ih]
theorem Is4.uniq {h : Heap} {v : Value} {x y : Q4} (p : Is4 h v x) (q : Is4 h v y) : x = y := by
  obtain ⟨a, o, t1, t2, t3, t4, n, e, ho, hc, hd⟩ := p
  obtain ⟨a', o', u1, u2, u3, u4, n', e', ho', hc', hd'⟩ := q
  rw [e] at e'
  cases e'
  rw [ho] at ho'
  cases ho'
  rw [hd] at hd'
  obtain ⟨x1, x2, x3, x4⟩ := x
  obtain ⟨y1, y2, y3, y4⟩ := y
  simp only [Data.seq.injEq, Array.mk.injEq, List.cons.injEq, Value.int.injEq, and_true] at hd'
  simp_all
open Classical in
/-- the four numbers of a value -/
noncomputable def key4 (h : Heap) (u : Value) : Q4 := if p : ∃ x, Is4 h u x then p.choose else (0, 0, 0, 0)
theorem key4_eq {h : Heap} {u : Value} {x : Q4} (p : Is4 h u x) : key4 h u = x := by
  have ex : ∃ x, Is4 h u x := ⟨x, p⟩
  unfold key4
  rw [dif_pos ex]
  exact ex.choose_spec.uniq p
section
variable {X : Cx}
theorem tup_is4 {pins : List (Addr × Obj)} {σ : Sg} {H : Hp} {s : Shared} (I : Inv X pins σ H s) {t : Addr} {x : Q4} (h : SqT X.K H t [.int x.1, .int x.2.1, .int x.2.2.1, .int x.2.2.2]) : Is4 s.heap (.ref t) x := by
  obtain ⟨its, rv, ⟨o, ho, hc, n, hd⟩, _⟩ := I.tuple h
  cases rv with
  | cons a1 rv => cases rv with
    | cons a2 rv => cases rv with
      | cons a3 rv => cases rv with
        | cons a4 rv =>
          cases rv
          obtain ⟨t1, rfl⟩ := a1
          obtain ⟨t2, rfl⟩ := a2
          obtain ⟨t3, rfl⟩ := a3
          obtain ⟨t4, rfl⟩ := a4
          exact ⟨t, o, t1, t2, t3, t4, n, rfl, ho, hc, hd⟩
theorem r4_all {pins : List (Addr × Obj)} {σ : Sg} {H Hs : Hp} {s : Shared} (I : Inv X pins σ H s) (sb : Same Hs H) : ∀ {xs : List V} {qs : List Q4} {its : List Value}, R4 X.K Hs xs qs → Vals xs its →
    its.map (key4 s.heap) = qs ∧ (∀ u ∈ its, Is4 s.heap u (key4 s.heap u) ∧ Rep X.K Hs (backV u) (d4 (key4 s.heap u))) ∧ ∀ x ∈ xs, ∃ a, x = V.ref a
  | _, _, _, .nil, .nil => ⟨rfl, fun _ h => absurd h List.not_mem_nil, fun _ h => absurd h List.not_mem_nil⟩
  | _, _, _, .cons (t := t) (x := x) h r, .cons (b := u) ru rs => by
    obtain ⟨e1, e2, e3⟩ := r4_all I sb r rs
    obtain rfl : u = Value.ref t := ru
    have p := tup_is4 I (same_sqt sb h.t)
    have k := key4_eq p
    refine ⟨by rw [List.map_cons, k, e1], fun v hv => ?_, fun v hv => ?_⟩
    · rcases List.mem_cons.1 hv with rfl | hv
      · rw [k]
        exact ⟨p, .tup h (.cons (.int _) (.cons (.int _) (.cons (.int _) (.cons (.int _) .nil))))⟩
      · exact e2 v hv
    · rcases List.mem_cons.1 hv with rfl | hv
      · exact ⟨t, rfl⟩
      · exact e3 v hv
theorem reps_out {K : PySem.W.Frag} {Hs : Hp} {f : Value → Q4} : ∀ {out : List Value}, (∀ u ∈ out, Rep K Hs (backV u) (d4 (f u))) → Reps K Hs (out.map backV) ((out.map f).map d4)
  | [], _ => .nil
  | u :: out, h => .cons (h u (List.mem_cons_self ..)) (reps_out fun v hv => h v (List.mem_cons_of_mem _ hv))
theorem cd_sorted : CallD X (.builtin "sorted") sortC := fun pins s σ H vs us Q I r ⟨Hs, ds, u, sb, rp, eg, q⟩ => by
  unfold sortC at eg
  split at eg
  · obtain ⟨qs, e1, rfl⟩ := map_u eg
    obtain ⟨v, rfl, h⟩ := reps1 rp
    cases h with
    | lst h1 r1 =>
      have r4 := q4_rep e1 r1
      obtain ⟨its, rv, hl, hz⟩ := I.list (SqL.of (sb _ _ h1))
      obtain ⟨k1, k2, k3⟩ := r4_all I sb r4 rv
      obtain ⟨b1, b2⟩ := refs_back rv k3
      rw [Vals.ref1 r]
      refine sorted_4 (k := key4 s.heap) hl.isList (by rw [← rv.length]; exact hz) (fun v hv => (k2 v hv).1) fun h' d out h1 h2 kp hd hn => ?_
      have h3 : ∀ u ∈ out, ∃ a, u = Value.ref a := fun u hu => b2 u (h2.perm.mem_iff.mp hu)
      obtain ⟨n, hn⟩ := hn
      have es : sort4 qs = out.map (key4 s.heap) := sort4_eq (srtd_map h1) (by rw [← k1]; exact h2.perm.map _)
      have hf := I.hok.fresh hd
      refine ⟨.ref d, upd H d (.lst (out.map backV)), I.laid (t' := s.toks) kp hd ⟨?_, out, n, vals_back h3, hn⟩, rfl, endV.newN sb q hf ?_⟩
      · rw [List.length_map, h2.len, ← rv.length]
        exact hz
      · rw [es]
        exact .lst (reps_out fun u hu => (k2 u (h2.perm.mem_iff.mp hu)).2)
  · cases eg
end
end HD

set_option Elab.async false
set_option linter.all false
set_option maxRecDepth 100000
set_option maxHeartbeats 4000000
/-! HDp: < of tuples, sorted of whole numbers, ranges with a step, new dicts, insert, pop. -/
namespace HD
open PySem PySem.Spec PyProof.Rows L2

/-! ### < -/
theorem _root_.L2.Room.u0 {k : Nat} {A : Around} (r : Room k A) : A.units < cLine := by have := r.un; omega
def ltA : D → D → Option Vn
  | .tup l, .tup m => (D.ints l).bind fun ns => (D.ints m).map fun ms => .v (.bl (HT.lexLt ns ms))
  | d, e => ltD d e
theorem opd_ltA {X : Cx} (hu : X.A.units < cLine) : OpD X (compareOp .Lt) ltA := fun pins s σ H x y v w Q I rx ry ⟨Hs, d, e, u, sb, r1, r2, eg, q⟩ => by
  unfold ltA at eg
  split at eg
  · rename_i l m
    cases e1 : D.ints l with
    | none => rw [e1] at eg; cases eg
    | some ns =>
      rw [e1, Option.bind_some] at eg
      cases e2 : D.ints m with
      | none => rw [e2] at eg; cases eg
      | some ms =>
        rw [e2] at eg
        have e3 := Option.some.inj eg
        subst e3
        cases r1 with
        | tup h1 q1 =>
          cases r2 with
          | tup h2 q2 =>
            have a1 := ints_rep e1 q1
            have a2 := ints_rep e2 q2
            subst a1
            subst a2
            exact op_ltT hu pins s σ H _ _ v w Q I rx ry ⟨_, _, ns, ms, rfl, rfl, same_sqt sb h1, same_sqt sb h2, endV.here sb q (.bl _)⟩
  · exact opd_lt pins s σ H x y v w Q I rx ry ⟨Hs, d, e, u, sb, r1, r2, eg, q⟩

/-! ### sorted -/
def sortI (ns : List Int) : List Int := ns.mergeSort fun a b => decide (a ≤ b)
theorem sortI_up (ns : List Int) : (sortI ns).Pairwise (· ≤ ·) := by
  have h := List.pairwise_mergeSort (le := fun a b : Int => decide (a ≤ b)) (fun a b c h1 h2 => by
    have := of_decide_eq_true h1
    have := of_decide_eq_true h2
    exact decide_eq_true (by omega)) (fun a b => by
    rcases Int.le_total a b with h | h
    · rw [decide_eq_true h]; rfl
    · rw [decide_eq_true h, Bool.or_true]) ns
  exact h.imp fun h => of_decide_eq_true h
theorem sortI_perm (ns : List Int) : (sortI ns).Perm ns := List.mergeSort_perm ns _
theorem sortI_eq {ns ms : List Int} (h1 : ms.Perm ns) (h2 : ms.Pairwise (· ≤ ·)) : ms = sortI ns :=
  List.Perm.eq_of_pairwise (le := (· ≤ ·)) (fun a b _ _ h h' => by omega) h2 (sortI_up ns) (h1.trans (sortI_perm ns).symm)
theorem sortI_eqR {ns ms : List Int} (h1 : ms.Perm ns) (h2 : ms.Pairwise (· ≥ ·)) : ms = (sortI ns).reverse :=
  List.Perm.eq_of_pairwise (le := (· ≥ ·)) (fun a b _ _ h h' => by omega) h2 (by
    rw [List.pairwise_reverse]
    exact (sortI_up ns).imp fun h => h) (h1.trans ((List.reverse_perm _).trans (sortI_perm ns)).symm)
noncomputable def sortA : List D → Option Vn
  | [.lst l] => match D.ints l with
    | some ns => some (.n (.lst ((sortI ns).map .int)))
    | none => (D.q4 l).map fun qs => .n (.lst ((sort4 qs).map d4))
  | _ => none
theorem cd_sortA {X : Cx} : CallD X (.builtin "sorted") sortA := fun pins s σ H vs us Q I r ⟨Hs, ds, u, sb, rp, eg, q⟩ => by
  unfold sortA at eg
  split at eg
  · rename_i l
    split at eg
    · rename_i ns e1
      have e2 := Option.some.inj eg
      subst e2
      obtain ⟨v, rfl, h⟩ := reps1 rp
      cases h with
      | lst h1 r1 =>
        refine cr_sortedI pins s σ H _ us Q I r ⟨_, ns, rfl, by rw [← ints_rep e1 r1]; exact SqL.of (sb _ _ h1), fun ns' p hp hs hn => ?_⟩
        rw [sortI_eq hp hs]
        exact endV.newN sb q hn (.lst (reps_ints _ _ _))
    · exact cd_sorted pins s σ H vs us Q I r ⟨Hs, [.lst l], u, sb, rp, eg, q⟩
  · cases eg
/-- sorted(e, reverse=True), of whole numbers -/
def sortR : D → Option Rs
  | .lst l => (D.ints l).map fun ns => .n (.lst ((sortI ns).reverse.map .int))
  | _ => none
def cSortR (f : Ev) : Ev := fun env => bindR (f env) sortR
theorem pd_sortR {X : Cx} {W : WX} {a : Expr} {f : Ev} {p pos : Pos} {kws : List Keyword} (hk : PK X kws (tCons (tC (.bl true)) tNil)) (hg : Gl X "sorted") (hm : X.mg "sorted" = none) (ha : PD X W a f)
    (hs : starEach [a] X.env = (false, eval a X.env) :: starEach [] X.env := by rfl)
    (he : backTo pos (starEach [a] X.env) = (false, eval a X.env) :: backTo pos (starEach [] X.env) := by rfl) (hpl : (backTo pos (starEach [a] X.env)).any (·.1) = false := by rfl)
    (hall : (backToKw pos (keywordEach kws X.env)).all (·.1.isSome) = true := by rfl) (hnone : (backToKw pos (keywordEach kws X.env)).any (·.1.isNone) = false := by rfl) (hks : (backToKw pos (keywordEach kws X.env)).filterMap (·.1) = [Str.ofString "reverse"] := by rfl) :
    PD X W (.Call (.Name "sorted" p) [a] kws pos) (cSortR f) :=
  pd_of (pe_callBK cr_sortedRev hg hm bt_sorted (pa_cons ha pa_nil hs) hk (he := he) (hpl := hpl) (hall := hall) (hnone := hnone) (hks := hks)) fun σ H Q env Hs r F e q => rd_bind F e q fun v d Hs1 H1 a1 F1 r1 e1 q1 => by
    unfold sortR at e1
    split at e1
    · rename_i l
      cases e2 : D.ints l with
      | none => rw [e2] at e1; cases e1
      | some ns =>
        rw [e2] at e1
        have e3 := Option.some.inj e1
        subst e3
        cases r1 with
        | lst h1 r1 =>
          refine ⟨_, ns, rfl, rfl, by rw [← ints_rep e2 r1]; exact SqL.of (F1.sub _ _ h1), fun ns' p hp hs hn => ?_⟩
          rw [sortI_eqR hp hs]
          exact endV.newN F1.sub q1 hn (.lst (reps_ints _ _ _))
    · cases e1

/-! ### a new dict -/
def cNewD : Ev := fun _ => some (.n (.dic []))
theorem pd_newD {X : Cx} {W : WX} {pos : Pos} : PD X W (.Dict [] [] pos) cNewD := pd_of pe_dnewK fun σ H Q env Hs r F e q => by
  have e2 := Option.some.inj e
  subst e2
  exact fun p hp => endV.newN F.sub q hp (.dic .nil)

/-! ### a range with a step -/
def rg3 : List D → Option Ri
  | [.int i, .int j, .int c] => if decide (c ≠ 0 ∧ c.natAbs < 1073741824) && Builtin.Range.small i j c then some (.ok (rgD3 i c (Builtin.Range.rangeSize i j c).toNat) false) else none
  | _ => none
def iRng (fs : List Ev) : Iv := fun env => bindLI (evs fs env) rg3
theorem reps3 {K : PySem.W.Frag} {H : Hp} {vs : List V} {d e f : D} (r : Reps K H vs [d, e, f]) : ∃ v w x, vs = [v, w, x] ∧ Rep K H v d ∧ Rep K H w e ∧ Rep K H x f := by
  cases r with
  | cons h r =>
    obtain ⟨w, x, rfl, h2, h3⟩ := reps2 r
    exact ⟨_, _, _, rfl, h, h2, h3⟩
theorem rgD3_get {lo c : Int} {n i : Nat} {d : D} (h : (rgD3 lo c n)[i]? = some d) : d = .int (lo + (i : Int) * c) := by
  unfold rgD3 at h
  rw [List.getElem?_map] at h
  cases e : (List.range n)[i]? with
  | none => rw [e] at h; cases h
  | some j =>
    rw [e] at h
    obtain ⟨h1, h2⟩ := List.getElem?_eq_some_iff.mp e
    rw [List.getElem_range] at h2
    subst h2
    exact (Option.some.inj h).symm
theorem rgD3_len {lo c : Int} {n : Nat} : (rgD3 lo c n).length = n := by unfold rgD3; rw [List.length_map, List.length_range]
theorem walkD_rangeC {K : PySem.W.Frag} {lo c : Int} {n : Nat} {Hs1 : Hp} : WalkD K (Itc lo c n) (rgD3 lo c n) Hs1 where
  go := fun i H hi s => by rw [rgD3_len] at hi; exact hi
  stop := fun H s => by rw [rgD3_len]; exact Nat.le_refl _
  yld := fun i H Hs x H' d hd s1 s2 y => by
    obtain ⟨rfl, rfl⟩ := y
    rw [rgD3_get hd]
    exact ⟨Hs, Ext.refl s2, .int _⟩
theorem pid_range3 {X : Cx} {W : WX} {a b c tg : Expr} {fs : List Ev} {p pos : Pos} (hg : Gl X "range") (hm : X.mg "range" = none) (ha : PAD X W [a, b, c] fs)
    (hs : starEach [a, b, c] X.env = (false, eval a X.env) :: starEach [b, c] X.env := by rfl) (hpl : (backTo pos (starEach [b, c] X.env)).any (·.1) = false := by rfl) : PID X W tg (.Call (.Name "range" p) [a, b, c] [] pos) (iRng fs) :=
  PI.weak (pi_range3 hg hm ha hs hpl) fun σ H R ⟨env, Hs, r, F, e, q⟩ => ri_bindL F e q fun vs ds Hs1 H1 a1 F1 r1 e1 q1 => by
    unfold rg3 at e1
    split at e1
    · split at e1
      · rename_i i j k hc
        rw [Bool.and_eq_true] at hc
        have e3 := Option.some.inj e1
        subst e3
        obtain ⟨v, w, x, rfl, h, h2, h3⟩ := reps3 r1
        cases h
        cases h2
        cases h3
        have hc1 := of_decide_eq_true hc.1
        exact ⟨_, _, _, _, rfl, ⟨hc1.1, hc1.2, hc.2, PyProof.Rows.rangeSize_toNat _ _ _⟩, endI.doneF F1.sub q1 walkD_rangeC⟩
      · cases e1
    · cases e1

/-! ### insert, pop of a list of one's own -/
def insAt (i : Nat) (d : D) (w : Vn) (env : En) : Option Out := match d with
  | .int k => onLst i env fun l => if 0 ≤ k ∧ k < 2 ^ 63 ∧ l.length < sizeLine then some (l.take k.toNat ++ [w.d] ++ l.drop k.toNat) else none
  | _ => none
def cIns (i : Nat) (nm : List Nat) (ix f : Ev) : Sm := fun env => if isL i env then evx nm ix env fun u env1 => evx nm f env1 fun w env2 => insAt i u.d w env2 else none
def popAt (i : Nat) (d : D) (env : En) : Option Out := match d with
  | .int k => onLst i env fun l => if -(2 ^ 63) ≤ k ∧ k < 2 ^ 63 then (ixN l.length k).map fun j => l.eraseIdx j else none
  | _ => none
def cPopIx (i : Nat) (nm : List Nat) (ix : Ev) : Sm := fun env => if isL i env then evx nm ix env fun u env1 => popAt i u.d env1 else none
theorem Reps.erase {K : PySem.W.Frag} {H : Hp} : ∀ {vs : List V} {ds : List D} (n : Nat), Reps K H vs ds → Reps K H (vs.eraseIdx n) (ds.eraseIdx n)
  | _, _, _, .nil => .nil
  | _, _, 0, .cons _ r => r
  | _, _, n + 1, .cons q r => .cons q (Reps.erase n r)
section
variable {X : Cx} {W : WX} {a : Expr} {f ix : Ev} {i : Nat} {nm : List Nat} {pos : Pos}
abbrev rIns : V → List V → Hp → VK → Prop := fun x vs H Q => ∃ (l : Addr) (xs : List V) (i : Int) (y : V), x = .ref l ∧ vs = [.int i, y] ∧ H l = some (.lst xs) ∧ xs.length < sizeLine ∧ 0 ≤ i ∧ i < 2 ^ 63 ∧
    Q .non (upd H l (.lst (xs.take i.toNat ++ [y] ++ xs.drop i.toNat)))
theorem psd_ins (hm : PE X a (tBM X.K "list" rIns (tVar i) (tCons (rdE X.K W ix) (tCons (rdE X.K W f) tNil)))) (hs : swapsWith a none pos.line X.env = pure false := by rfl) : PSD X W (.Expr a pos) (cIns i nm ix f) :=
  PS.weak (ps_expr hm hs) fun D σ H ⟨H0s, H0, env, Hs, o, Fr, e, q⟩ => by
    unfold cIns at e
    split at e
    case isFalse => cases e
    case isTrue hl =>
      obtain ⟨p, xs, l, h1, h2, h3, h4⟩ := isL_at Fr hl
      refine ⟨_, h2, tyL h3, evx_ok Fr e q fun v u env1 Hs1 H1 s1 F1 gt e1 q1 => ?_⟩
      obtain ⟨Hs2, s2, F2, r2⟩ := gt.share F1
      refine evx_ok F2 e1 (q1.up s2) fun v2 w env2 Hs3 H3 s3 F3 gt3 e3 q3 => ?_
      obtain ⟨Hs4, s4, F4, r4⟩ := gt3.share F3
      unfold insAt at e3
      split at e3
      · rename_i k ek
        rw [ek] at r2
        cases r2
        obtain ⟨p', xs', l1, l2, g1, g2, g3, g4, g5⟩ := onLst_at F4 e3 (q3.up s4)
        rw [h2] at g1
        cases g1
        split at g4
        · rename_i hk
          have g6 := Option.some.inj g4
          subst g6
          exact ⟨p, xs', k, v2, rfl, rfl, g2, by rw [g3.length]; exact hk.2.2, hk.1, hk.2.1, g5 _ (((g3.take _).append (.cons r4 .nil)).append (g3.drop _))⟩
        · cases g4
      · cases e3
theorem psd_popIx (hm : PE X a (tBM X.K "list" rPopAt (tVar i) (tCons (rdE X.K W ix) tNil))) (hs : swapsWith a none pos.line X.env = pure false := by rfl) : PSD X W (.Expr a pos) (cPopIx i nm ix) :=
  PS.weak (ps_expr hm hs) fun D σ H ⟨H0s, H0, env, Hs, o, Fr, e, q⟩ => by
    unfold cPopIx at e
    split at e
    case isFalse => cases e
    case isTrue hl =>
      obtain ⟨p, xs, l, h1, h2, h3, h4⟩ := isL_at Fr hl
      refine ⟨_, h2, tyL h3, evx1 Fr e q fun v u env1 Hs1 H1 s1 F1 r1 e1 q1 => ?_⟩
      unfold popAt at e1
      split at e1
      · rename_i k ek
        rw [ek] at r1
        cases r1
        obtain ⟨p', xs', l1, l2, g1, g2, g3, g4, g5⟩ := onLst_at F1 e1 q1
        rw [h2] at g1
        cases g1
        split at g4
        · rename_i hk
          cases ej : ixN l1.length k with
          | none => rw [ej] at g4; cases g4
          | some j =>
            rw [ej] at g4
            have g6 := Option.some.inj g4
            subst g6
            rw [← g3.length] at ej
            obtain ⟨z1, z2, z3, z4⟩ := ixN_seq ej
            exact ⟨p, xs', k, j, _, rfl, rfl, g2, hk.1, hk.2, z1, List.getElem?_eq_getElem z2, g5 _ (g3.erase j)⟩
        · cases g4
      · cases e1
end
end HD

set_option Elab.async false
set_option linter.all false
set_option maxRecDepth 100000
/-! Ev: how the functions on data are evaluated, by simp -/
namespace HD
open PySem L2

/-! ### sizes of ints -/
class SzC (x : Int) (n : outParam Nat) : Prop where
  lt : x.natAbs < 2 ^ n
class Ps (c : Int) : Prop where
  pos : 0 < c
theorem SzC.mono {x : Int} {m : Nat} (h : SzC x m) {n : Nat} (l : m ≤ n) : SzC x n := ⟨Nat.lt_of_lt_of_le h.lt (Nat.pow_le_pow_right (by decide) l)⟩
instance sz_lit (k : Nat) : SzC (no_index (@OfNat.ofNat Int k instOfNat)) (Nat.log2 k + 1) := ⟨by
  show (Int.ofNat k).natAbs < _
  exact Nat.lt_log2_self⟩
instance sz_add {x y : Int} {m n : Nat} [a : SzC x m] [b : SzC y n] : SzC (x + y) (max m n + 1) := ⟨by
  have h1 := a.lt
  have h2 := b.lt
  have h3 : 2 ^ m ≤ 2 ^ max m n := Nat.pow_le_pow_right (by decide) (Nat.le_max_left _ _)
  have h4 : 2 ^ n ≤ 2 ^ max m n := Nat.pow_le_pow_right (by decide) (Nat.le_max_right _ _)
  rw [Nat.pow_succ]
  omega⟩
instance sz_sub {x y : Int} {m n : Nat} [a : SzC x m] [b : SzC y n] : SzC (x - y) (max m n + 1) := ⟨by
  have h1 := a.lt
  have h2 := b.lt
  have h3 : 2 ^ m ≤ 2 ^ max m n := Nat.pow_le_pow_right (by decide) (Nat.le_max_left _ _)
  have h4 : 2 ^ n ≤ 2 ^ max m n := Nat.pow_le_pow_right (by decide) (Nat.le_max_right _ _)
  rw [Nat.pow_succ]
  omega⟩
instance sz_neg {x : Int} {m : Nat} [a : SzC x m] : SzC (-x) m := ⟨by rw [Int.natAbs_neg]; exact a.lt⟩
instance sz_mul {x y : Int} {m n : Nat} [a : SzC x m] [b : SzC y n] : SzC (x * y) (m + n) := ⟨by
  rw [Int.natAbs_mul, Nat.pow_add]
  exact Nat.mul_lt_mul'' a.lt b.lt⟩
instance sz_ite {c : Prop} [Decidable c] {x y : Int} {m n : Nat} [a : SzC x m] [b : SzC y n] : SzC (if c then x else y) (max m n) := by
  split
  · exact a.mono (Nat.le_max_left _ _)
  · exact b.mono (Nat.le_max_right _ _)
instance sz_mod {x c : Int} {n : Nat} [p : Ps c] [a : SzC c n] : SzC (x % c) n := ⟨by
  have h1 := a.lt
  have h2 := p.pos
  have h3 := Int.emod_nonneg x (b := c) (by omega)
  have h4 := Int.emod_lt_of_pos x h2
  omega⟩
instance sz_div {x c : Int} {n : Nat} [p : Ps c] [a : SzC x n] : SzC (x / c) n := ⟨by
  have h1 := a.lt
  have h2 := p.pos
  have h5 : (x / c).natAbs ≤ x.natAbs := Int.natAbs_ediv_le_natAbs x c
  omega⟩
instance ps_lit (k : Nat) [h : NeZero k] : Ps (no_index (@OfNat.ofNat Int k instOfNat)) := ⟨by
  show (0:Int) < Int.ofNat k
  exact Int.natCast_pos.2 (Nat.pos_of_ne_zero h.out)⟩
instance ps_add {a b : Int} [h1 : Ps a] [h2 : Ps b] : Ps (a + b) := ⟨by have := h1.pos; have := h2.pos; omega⟩
instance ps_mul {a b : Int} [h1 : Ps a] [h2 : Ps b] : Ps (a * b) := ⟨Int.mul_pos h1.pos h2.pos⟩
instance ps_ite {c : Prop} [Decidable c] {a b : Int} [h1 : Ps a] [h2 : Ps b] : Ps (if c then a else b) := by
  split
  · exact h1
  · exact h2
theorem log2_le_of {x : Int} {n : Nat} [a : SzC x n] : x.natAbs.log2 ≤ n := by
  by_cases h : x.natAbs = 0
  · rw [h]; exact Nat.zero_le _
  · exact Nat.le_of_lt ((Nat.log2_lt h).2 a.lt)
def Sz (n : Nat) (x : Int) : Prop := x.natAbs < 2 ^ n
theorem Sz.of {x : Int} {m n : Nat} [a : SzC x m] (h : m ≤ n) : Sz n x := (a.mono h).lt
theorem Sz.c {x : Int} {n : Nat} (h : Sz n x) : SzC x n := ⟨h⟩
theorem szc_of {x : Int} {n : Nat} {b : Int} (h1 : -b ≤ x) (h2 : x ≤ b) (h : b.natAbs < 2 ^ n) : SzC x n := ⟨by omega⟩
theorem mulD_ok {i j : Int} {m n : Nat} [a : SzC i m] [b : SzC j n] (h : m + n ≤ 99999999) : mulD (.int i) (.int j) = some (.v (.int (i * j))) := by
  have h2 := log2_le_of (x := i)
  have h3 := log2_le_of (x := j)
  show (if decide (i.natAbs.log2 + j.natAbs.log2 < 100000000) = true then _ else _) = _
  rw [if_pos (decide_eq_true (by omega))]
theorem fdivD_ok {i j : Int} {n : Nat} [p : Ps j] [b : SzC j n] (h : n ≤ 8999) : fdivD (.int i) (.int j) = some (.v (.int (i / j))) := by
  have h3 := log2_le_of (x := j)
  have h4 := p.pos
  show (if decide (j ≠ 0 ∧ j.natAbs.log2 < 9000) = true then _ else _) = _
  rw [if_pos (decide_eq_true ⟨by omega, by omega⟩), Int.fdiv_eq_ediv_of_nonneg _ (by omega)]
theorem modD_ok {i j : Int} [p : Ps j] : modD (.int i) (.int j) = some (.v (.int (i % j))) := by
  have h4 := p.pos
  show (if j = 0 then none else some (Vn.v (D.int (i.fmod j)))) = _
  rw [if_neg (by omega), Int.fmod_eq_emod_of_nonneg _ (by omega)]
theorem addD_i (i j : Int) : addD (.int i) (.int j) = some (.v (.int (i + j))) := rfl
theorem subD_i (i j : Int) : subD (.int i) (.int j) = some (.v (.int (i - j))) := rfl
theorem negD_i (i : Int) : negD (.int i) = some (.v (.int (-i))) := rfl
theorem ltD_i (i j : Int) : ltD (.int i) (.int j) = some (.v (.bl (decide (i < j)))) := rfl
theorem leD_i (i j : Int) : leD (.int i) (.int j) = some (.v (.bl (decide (i ≤ j)))) := rfl
theorem gtD_i (i j : Int) : gtD (.int i) (.int j) = some (.v (.bl (decide (j < i)))) := rfl
theorem geD_i (i j : Int) : geD (.int i) (.int j) = some (.v (.bl (decide (j ≤ i)))) := rfl
theorem eqD_i (i j : Int) : eqD (.int i) (.int j) = some (.v (.bl (decide (i = j)))) := by
  unfold eqD
  simp only [D.sh, D.eqv, Bool.and_self, if_true]
  rfl
theorem neD_i (i j : Int) : neD (.int i) (.int j) = some (.v (.bl (decide (i ≠ j)))) := by
  unfold neD
  simp only [D.sh, D.eqv, Bool.and_self, if_true, decide_not]
  rfl
theorem eqD_b (i j : Bool) : eqD (.bl i) (.bl j) = some (.v (.bl (i == j))) := by
  unfold eqD
  simp only [D.sh, D.eqv, Bool.and_self, if_true]
theorem neD_b (i j : Bool) : neD (.bl i) (.bl j) = some (.v (.bl (!(i == j)))) := by
  unfold neD
  simp only [D.sh, D.eqv, Bool.and_self, if_true]
theorem powD_i (i j : Int) (h : (decide (0 ≤ j) && (decide (j ≤ 1000000) && decide (i.natAbs < 2 ^ 64))) = true) : powD (.int i) (.int j) = some (.v (.int (i ^ j.toNat))) := by
  simp only [Bool.and_eq_true, decide_eq_true_eq] at h
  unfold powD
  exact if_pos h

/-! ### tuples and lists: equality -/
theorem eqv_int (i j : Int) : D.eqv (.int i) (.int j) = decide (i = j) := rfl
theorem eqv_tup (l m : List D) : D.eqv (.tup l) (.tup m) = D.eqvs l m := by simp only [D.eqv]
theorem eqv_lst (l m : List D) : D.eqv (.lst l) (.lst m) = D.eqvs l m := by simp only [D.eqv]
theorem eqvs_nil : D.eqvs [] [] = true := by simp only [D.eqvs]
theorem eqvs_cons (x y : D) (l m : List D) : D.eqvs (x :: l) (y :: m) = (D.eqv x y && D.eqvs l m) := by simp only [D.eqvs]
theorem eqvs_nc (y : D) (m : List D) : D.eqvs [] (y :: m) = false := by simp only [D.eqvs]
theorem eqvs_cn (y : D) (m : List D) : D.eqvs (y :: m) [] = false := by simp only [D.eqvs]
theorem sh_int (n : Nat) (i : Int) : D.sh n (.int i) = true := by cases n <;> simp only [D.sh]
theorem sh_bl (n : Nat) (i : Bool) : D.sh n (.bl i) = true := by cases n <;> simp only [D.sh]
theorem sh_non (n : Nat) : D.sh n .non = true := by cases n <;> simp only [D.sh]
theorem sh_tup (n : Nat) (l : List D) : D.sh (n + 1) (.tup l) = D.shs n l := by simp only [D.sh]
theorem sh_lst (n : Nat) (l : List D) : D.sh (n + 1) (.lst l) = D.shs n l := by simp only [D.sh]
theorem shs_nil (n : Nat) : D.shs n [] = true := by simp only [D.shs]
theorem shs_cons (n : Nat) (d : D) (l : List D) : D.shs n (d :: l) = (D.sh n d && D.shs n l) := by simp only [D.shs]
theorem shs_map {α : Type} (n : Nat) (k : α → D) : ∀ l : List α, (∀ x ∈ l, (k x).sh n = true) → D.shs n (l.map k) = true
  | [], _ => shs_nil n
  | x :: l, h => by
    rw [List.map_cons, shs_cons, h x (List.mem_cons_self ..), shs_map n k l fun y hy => h y (List.mem_cons_of_mem _ hy)]
    rfl
theorem eqD_tt (l m : List D) : eqD (.tup l) (.tup m) = if D.shs 59 l && D.shs 59 m then some (.v (.bl (D.eqvs l m))) else none := by
  unfold eqD
  rw [sh_tup, sh_tup, eqv_tup]
theorem eqD_ll (l m : List D) : eqD (.lst l) (.lst m) = if D.shs 59 l && D.shs 59 m then some (.v (.bl (D.eqvs l m))) else none := by
  unfold eqD
  rw [sh_lst, sh_lst, eqv_lst]
theorem neD_tt (l m : List D) : neD (.tup l) (.tup m) = if D.shs 59 l && D.shs 59 m then some (.v (.bl (!D.eqvs l m))) else none := by
  unfold neD
  rw [sh_tup, sh_tup, eqv_tup]
theorem neD_ll (l m : List D) : neD (.lst l) (.lst m) = if D.shs 59 l && D.shs 59 m then some (.v (.bl (!D.eqvs l m))) else none := by
  unfold neD
  rw [sh_lst, sh_lst, eqv_lst]
theorem in_tup (d : D) (l : List D) : inD d (.tup l) = if D.sh 60 d && D.shs 59 l then some (.v (.bl (l.any fun z => D.eqv z d))) else none := by
  have h : inB d (.tup l) = if D.sh 60 d && D.shs 59 l then some (l.any fun z => D.eqv z d) else none := by cases d <;> rfl
  unfold inD
  rw [h]
  split <;> rfl
theorem in_tt (k l : List D) : inD (.tup k) (.tup l) = if D.shs 59 k && D.shs 59 l then some (.v (.bl (l.any fun z => D.eqv z (.tup k)))) else none := by
  rw [in_tup, sh_tup]
/-- data of the like of d: comparing is equality -/
class Eqv (d e : D) (b : outParam Bool) : Prop where
  sh1 : ∀ n, 8 ≤ n → d.sh n = true
  sh2 : ∀ n, 8 ≤ n → e.sh n = true
  eq : D.eqv d e = b
theorem eqD_of {d e : D} {b : Bool} [h : Eqv d e b] : eqD d e = some (.v (.bl b)) := by
  unfold eqD
  rw [h.sh1 60 (by omega), h.sh2 60 (by omega), h.eq]
  rfl
theorem neD_of {d e : D} {b : Bool} [h : Eqv d e b] : neD d e = some (.v (.bl (!b))) := by
  unfold neD
  rw [h.sh1 60 (by omega), h.sh2 60 (by omega), h.eq]
  rfl

/-! ### expressions -/
theorem vr_z (s : Slot) (e : En) : vr 0 (s :: e) = s.val.map Rs.v := rfl
theorem vr_s (i : Nat) (s : Slot) (e : En) : vr (i + 1) (s :: e) = vr i e := rfl
theorem val_sh (d : D) : (Slot.sh d).val = some d := rfl
theorem val_own (d : D) : (Slot.own d).val = some d := rfl
theorem cC_e (d : D) (e : En) : cC d e = some (.v d) := rfl
theorem bind_v (d : D) (k : D → Option Rs) : bindR (some (.v d)) k = k d := rfl
theorem bind_n (d : D) (k : D → Option Rs) : bindR (some (.n d)) k = k d := rfl
theorem bind_x (d : D) (k : D → Option Rs) : bindR (some (.x d)) k = some (.x d) := rfl
theorem bind_ite {c : Prop} [Decidable c] (a b : Option Rs) (k : D → Option Rs) : bindR (if c then a else b) k = if c then bindR a k else bindR b k := by split <;> rfl
theorem cOp_e (g : D → D → Option Vn) (a b : Ev) (env : En) : cOp g a b env = bindR (a env) fun x => bindR (b env) fun y => (g x y).map Vn.r := rfl
theorem cUn_e (g : D → Option Vn) (a : Ev) (env : En) : cUn g a env = bindR (a env) fun x => (g x).map Vn.r := rfl
theorem map_some {α β : Type} (f : α → β) (x : α) : Option.map f (some x) = some (f x) := rfl
theorem r_v (d : D) : Vn.r (.v d) = .v d := rfl
theorem r_n (d : D) : Vn.r (.n d) = .n d := rfl
theorem d_v (d : D) : Vn.d (.v d) = d := rfl
theorem d_n (d : D) : Vn.d (.n d) = d := rfl
def consL (d : D) (r : Option Rl) : Option Rl := r.map fun r => match r with | .ok ds => .ok (d :: ds) | .x e => .x e
def headL (r : Option Rs) (t : Option Rl) : Option Rl := match r with
  | none => none
  | some (.x e) => some (.x e)
  | some (.v d) => consL d t
  | some (.n d) => consL d t
theorem evs_n (e : En) : evs [] e = some (.ok []) := rfl
theorem evs_c (f : Ev) (fs : List Ev) (e : En) : evs (f :: fs) e = headL (f e) (evs fs e) := rfl
theorem headL_v (d : D) (t : Option Rl) : headL (some (.v d)) t = consL d t := rfl
theorem headL_n (d : D) (t : Option Rl) : headL (some (.n d)) t = consL d t := rfl
theorem headL_x (d : D) (t : Option Rl) : headL (some (.x d)) t = some (.x d) := rfl
theorem consL_ok (d : D) (ds : List D) : consL d (some (.ok ds)) = some (.ok (d :: ds)) := rfl
theorem consL_x (d e : D) : consL d (some (.x e)) = some (.x e) := rfl
theorem bindL_ok (ds : List D) (k : List D → Option Rs) : bindL (some (.ok ds)) k = k ds := rfl
theorem bindL_x (d : D) (k : List D → Option Rs) : bindL (some (.x d)) k = some (.x d) := rfl
theorem cCall_e (φ : List D → Option Rs) (fs : List Ev) (e : En) : cCall φ fs e = bindL (evs fs e) φ := rfl
theorem cCB_e (g : List D → Option Vn) (fs : List Ev) (e : En) : cCB g fs e = bindL (evs fs e) fun ds => (g ds).map Vn.r := rfl
def pure0 (r : Option Rs) : Option Rs := match r with
  | some (.v d) => some (.v d)
  | some (.n d) => some (.n d)
  | _ => none
theorem cCall0_e (φ : List D → Option Rs) (e : En) : cCall0 φ e = pure0 (φ []) := rfl
theorem pure0_v (d : D) : pure0 (some (.v d)) = some (.v d) := rfl
theorem pure0_n (d : D) : pure0 (some (.n d)) = some (.n d) := rfl
theorem cTup_e (fs : List Ev) (e : En) : cTup fs e = bindL (evs fs e) fun ds => if ds.length ≤ 16777216 then some (.v (.tup ds)) else none := rfl
theorem cLst_e (fs : List Ev) (e : En) : cLst fs e = bindL (evs fs e) fun ds => if ds.length ≤ 16777216 then some (.n (.lst ds)) else none := rfl
def truR (r : Option Rs) (k : D → Bool → Option Rs) : Option Rs := bindR r fun d => (truD d).bind (k d)
theorem cOr_e (f g : Ev) (e : En) : cOr f g e = bindR (f e) fun d => (truD d).bind fun b => if b then some (.v d) else g e := by
  unfold cOr
  congr 1
  funext d
  rcases truD d with _ | _ | _ <;> rfl
theorem cAnd_e (f g : Ev) (e : En) : cAnd f g e = bindR (f e) fun d => (truD d).bind fun b => if b then g e else some (.v d) := by
  unfold cAnd
  congr 1
  funext d
  rcases truD d with _ | _ | _ <;> rfl
theorem cNot_e (f : Ev) (e : En) : cNot f e = bindR (f e) fun d => (truD d).map fun b => .v (.bl (!b)) := rfl
theorem cIs_e (g : D → Option Bool) (f : Ev) (e : En) : cIs g f e = bindR (f e) fun d => (g d).map fun b => .v (.bl b) := rfl
theorem obind_some {α β : Type} (x : α) (f : α → Option β) : Option.bind (some x) f = f x := rfl
theorem tru_bl (b : Bool) : truD (.bl b) = some b := rfl
theorem tru_int (i : Int) : truD (.int i) = some (decide (i ≠ 0)) := by
  show some (!(decide (i = 0))) = _
  rw [decide_not]
theorem tru_non : truD .non = some false := rfl
theorem tru_tup (l : List D) : truD (.tup l) = some (!l.isEmpty) := rfl
theorem tru_lst (l : List D) : truD (.lst l) = some (!l.isEmpty) := rfl
def iteR (r : Option Rt) (a b : Option Rs) : Option Rs := match r with
  | some (.ok true) => a
  | some (.ok false) => b
  | some (.x e) => some (.x e)
  | none => none
theorem cIte_e (c : Tv) (f g : Ev) (e : En) : cIte c f g e = iteR (c e) (f e) (g e) := by
  unfold cIte iteR
  rcases c e with _ | (_ | _) | _ <;> rfl
theorem iteR_ok (b : Bool) (x y : Option Rs) : iteR (some (.ok b)) x y = if b then x else y := by cases b <;> rfl
def chR (o : Option Vn) (k : Option Rs) : Option Rs := match o with
  | some (.v (.bl true)) => k
  | some (.v (.bl false)) => some (.v (.bl false))
  | _ => none
theorem cChain_e (g g' : D → D → Option Vn) (f1 f2 f3 : Ev) (e : En) : cChain g g' f1 f2 f3 e = bindR (f1 e) fun x => bindR (f2 e) fun y => chR (g x y) (bindR (f3 e) fun z => (g' y z).map Vn.r) := by
  unfold cChain
  congr 1
theorem chR_b (b : Bool) (k : Option Rs) : chR (some (.v (.bl b))) k = if b then k else some (.v (.bl false)) := by cases b <;> rfl

/-! ### tests -/
def tvR (r : Option Rs) : Option Rt := match r with
  | none => none
  | some (.x e) => some (.x e)
  | some (.v d) => (truD d).map .ok
  | some (.n d) => (truD d).map .ok
theorem tVal_e (f : Ev) (e : En) : tVal f e = tvR (f e) := by
  unfold tVal tvR
  rcases f e with _ | _ | _ | _ <;> rfl
theorem tvR_v (d : D) : tvR (some (.v d)) = (truD d).map .ok := rfl
theorem tvR_n (d : D) : tvR (some (.n d)) = (truD d).map .ok := rfl
theorem tvR_x (d : D) : tvR (some (.x d)) = some (.x d) := rfl
def tbR (r : Option Rs) : Option Rt := match r with
  | some (.x e) => some (.x e)
  | some (.v (.bl b)) => some (.ok b)
  | _ => none
theorem tBl_e (f : Ev) (e : En) : tBl f e = tbR (f e) := by
  unfold tBl tbR
  rcases f e with _ | _ | _ | _ <;> rfl
theorem tbR_b (b : Bool) : tbR (some (.v (.bl b))) = some (.ok b) := rfl
def ntR (r : Option Rt) : Option Rt := match r with
  | some (.ok b) => some (.ok (!b))
  | r => r
theorem tNot_e (c : Tv) (e : En) : tNot' c e = ntR (c e) := by
  unfold tNot' ntR
  rcases c e with _ | (_ | _) | _ <;> rfl
theorem ntR_ok (b : Bool) : ntR (some (.ok b)) = some (.ok (!b)) := rfl
def anR (r s : Option Rt) : Option Rt := match r with
  | some (.ok true) => s
  | r => r
theorem tAnd_e (c d : Tv) (e : En) : tAnd' c d e = anR (c e) (d e) := by
  unfold tAnd' anR
  rcases c e with _ | (_ | _) | _ <;> rfl
theorem anR_ok (b b' : Bool) : anR (some (.ok b)) (some (.ok b')) = some (.ok (b && b')) := by cases b <;> rfl
theorem anR_t (s : Option Rt) : anR (some (.ok true)) s = s := rfl
theorem anR_f (s : Option Rt) : anR (some (.ok false)) s = some (.ok false) := rfl
def orR (r s : Option Rt) : Option Rt := match r with
  | some (.ok false) => s
  | r => r
theorem tOr_e (c d : Tv) (e : En) : tOr' c d e = orR (c e) (d e) := by
  unfold tOr' orR
  rcases c e with _ | (_ | _) | _ <;> rfl
theorem orR_ok (b b' : Bool) : orR (some (.ok b)) (some (.ok b')) = some (.ok (b || b')) := by cases b <;> rfl
theorem orR_t (s : Option Rt) : orR (some (.ok true)) s = some (.ok true) := rfl
theorem orR_f (s : Option Rt) : orR (some (.ok false)) s = s := rfl
theorem tYes_e (e : En) : tYes' e = some (.ok true) := rfl

/-! ### calls of builtins -/
theorem len_tup (l : List D) : lenC [.tup l] = some (.v (.int l.length)) := rfl
theorem len_lst (l : List D) : lenC [.lst l] = some (.v (.int l.length)) := rfl
theorem len_scr (l : List D) : lenC [.scr l] = some (.v (.int l.length)) := rfl
theorem abs_i (i : Int) : absC [.int i] = some (.v (.int (if i < 0 then -i else i))) := rfl
theorem sum_l (l : List D) : sumC [.lst l] = (D.ints l).map fun ns => .v (.int ns.sum) := rfl
theorem all_l (l : List D) : allC [.lst l] = (D.bls l).map fun ns => .v (.bl (ns.all id)) := rfl
theorem tuple_l (l : List D) : tupleC [.lst l] = some (.v (.tup l)) := rfl
theorem tuple_t (l : List D) : tupleC [.tup l] = some (.v (.tup l)) := rfl
theorem tuple_s (l : List D) : tupleC [.scr l] = some (.v (.tup l)) := rfl
theorem list_l (l : List D) : listC [.lst l] = some (.n (.lst l)) := rfl
theorem list_t (l : List D) : listC [.tup l] = some (.n (.lst l)) := rfl
theorem list_s (l : List D) : listC [.scr l] = some (.n (.lst l)) := rfl
theorem ints_n : D.ints [] = some [] := rfl
theorem ints_c (i : Int) (r : List D) : D.ints (.int i :: r) = (D.ints r).map (i :: ·) := rfl
theorem ints_m : ∀ l : List Int, D.ints (l.map .int) = some l
  | [] => rfl
  | i :: l => by rw [List.map_cons, ints_c, ints_m l]; rfl
theorem bls_n : D.bls [] = some [] := rfl
theorem bls_c (i : Bool) (r : List D) : D.bls (.bl i :: r) = (D.bls r).map (i :: ·) := rfl
theorem bls_m : ∀ l : List Bool, D.bls (l.map .bl) = some l
  | [] => rfl
  | i :: l => by rw [List.map_cons, bls_c, bls_m l]; rfl
theorem isInt_i (i : Int) : isIntD (.int i) = some true := rfl
theorem isBool_i (i : Int) : isBoolD (.int i) = some false := rfl
theorem isInt_b (b : Bool) : isIntD (.bl b) = some true := rfl
theorem isInt_n : isIntD .non = some false := rfl
theorem isInt_s (x : Str) : isIntD (.str x) = some false := rfl
theorem isInt_t (l : List D) : isIntD (.tup l) = some false := rfl
theorem isInt_l (l : List D) : isIntD (.lst l) = some false := rfl
theorem isBool_b (b : Bool) : isBoolD (.bl b) = some true := rfl
theorem isBool_n : isBoolD .non = some false := rfl
theorem isBool_s (x : Str) : isBoolD (.str x) = some false := rfl
theorem isBool_t (l : List D) : isBoolD (.tup l) = some false := rfl
theorem isBool_l (l : List D) : isBoolD (.lst l) = some false := rfl
theorem isTup_i (i : Int) : isTupD (.int i) = some false := rfl
theorem isTup_b (b : Bool) : isTupD (.bl b) = some false := rfl
theorem isTup_n : isTupD .non = some false := rfl
theorem isTup_s (x : Str) : isTupD (.str x) = some false := rfl
theorem isTup_l (l : List D) : isTupD (.lst l) = some false := rfl
theorem isLst_l (l : List D) : isLstD (.lst l) = some true := rfl
theorem isLst_t (l : List D) : isLstD (.tup l) = some false := rfl
theorem isLst_i (i : Int) : isLstD (.int i) = some false := rfl
theorem isLst_n : isLstD .non = some false := rfl
theorem isStr_s (x : Str) : isStrD (.str x) = some true := rfl
theorem isStr_i (i : Int) : isStrD (.int i) = some false := rfl
theorem isStr_n : isStrD .non = some false := rfl
theorem isStr_t (l : List D) : isStrD (.tup l) = some false := rfl
theorem isStr_l (l : List D) : isStrD (.lst l) = some false := rfl
theorem isTup_t (l : List D) : isTupD (.tup l) = some true := rfl

def anyR (b : Option (List Bool)) (i : Option (List Int)) : Option Vn := match b with
  | some bs => some (.v (.bl (bs.any id)))
  | none => i.map fun ns => .v (.bl (ns.any (· != 0)))
theorem any_l (l : List D) : anyC [.lst l] = anyR (D.bls l) (D.ints l) := rfl
theorem any_t (l : List D) : anyC [.tup l] = anyR none (D.ints l) := rfl
theorem anyR_b (bs : List Bool) (i : Option (List Int)) : anyR (some bs) i = some (.v (.bl (bs.any id))) := rfl
theorem anyR_i (ns : List Int) : anyR none (some ns) = some (.v (.bl (ns.any (· != 0)))) := rfl
theorem bls_i (i : Int) (r : List D) : D.bls (.int i :: r) = none := rfl
theorem divmod_ok {i j : Int} {n : Nat} [p : Ps j] [b : SzC j n] (h : n ≤ 8999) : divmodC [.int i, .int j] = some (.v (.tup [.int (i / j), .int (i % j)])) := by
  have h3 := log2_le_of (x := j)
  show (if 0 < j ∧ j.natAbs.log2 < 9000 then _ else _) = _
  rw [if_pos ⟨p.pos, by omega⟩]
def lsR (d : D) : Option Rs := match d with
  | .lst l => (D.ints l).bind fun ns => if ns.length ≤ 4000 then some (.v (.int (nubN ns : Nat))) else none
  | _ => none
theorem lenSet_e (f : Ev) (env : En) : cLenSet f env = bindR (f env) lsR := rfl
theorem lsR_l (l : List D) : lsR (.lst l) = (D.ints l).bind fun ns => if ns.length ≤ 4000 then some (.v (.int (nubN ns : Nat))) else none := rfl
/-- four ints, all even or all odd -/
theorem nub4 (a b c d : Int) : (nubN [a, b, c, d] : Int) = 1 ↔ a = b ∧ a = c ∧ a = d := by
  have h : nubN [a, b, c, d] = (List.foldl (fun s x => if s.any (· == x) then s else s ++ [x]) [] [a, b, c, d]).length := rfl
  rw [h]
  simp only [List.foldl_cons, List.foldl_nil, List.any_nil, Bool.false_eq_true, if_false, List.nil_append, List.any_cons, Bool.or_false, beq_iff_eq]
  by_cases h1 : a = b
  · subst h1
    simp only [if_true, List.any_cons, List.any_nil, Bool.or_false, beq_iff_eq]
    by_cases h2 : a = c
    · subst h2
      simp only [if_true, List.any_cons, List.any_nil, Bool.or_false, beq_iff_eq, true_and]
      by_cases h3 : a = d
      · simp [h3]
      · simp [h3]
    · simp only [h2, if_false, false_and, and_false, iff_false]
      split <;> simp
  · simp only [h1, if_false, false_and, iff_false]
    split <;> split <;> simp <;> omega

/-! ### subscripts -/
theorem atI_nat {α : Type} (l : List α) (k : Nat) : atI l (k : Int) = l[k]? := by
  unfold atI ixN
  rw [if_pos (by omega)]
  by_cases h : k < l.length
  · rw [if_pos (by omega)]; rfl
  · rw [if_neg (by omega), List.getElem?_eq_none (by omega)]; rfl
theorem atI_lit {α : Type} (l : List α) (k : Nat) : atI l (no_index (@OfNat.ofNat Int k instOfNat)) = l[k]? := atI_nat l k
theorem atI_pos {α : Type} (l : List α) (k : Int) (h : 0 ≤ k) : atI l k = l[k.toNat]? := by
  have := atI_nat l k.toNat
  rwa [Int.toNat_of_nonneg h] at this
theorem atI_2 {α : Type} (a b : α) (k : Int) (h0 : 0 ≤ k) (h1 : k < 2) : atI [a, b] k = some (if k = 0 then a else b) := by
  rcases (show k = 0 ∨ k = 1 by omega) with h | h <;> subst h <;> rfl
theorem atI_3 {α : Type} (a b c : α) (k : Int) (h0 : 0 ≤ k) (h1 : k < 3) : atI [a, b, c] k = some (if k = 0 then a else if k = 1 then b else c) := by
  rcases (show k = 0 ∨ k = 1 ∨ k = 2 by omega) with h | h | h <;> subst h <;> rfl
theorem atI_4 {α : Type} (a b c d : α) (k : Int) (h0 : 0 ≤ k) (h1 : k < 4) : atI [a, b, c, d] k = some (if k = 0 then a else if k = 1 then b else if k = 2 then c else d) := by
  rcases (show k = 0 ∨ k = 1 ∨ k = 2 ∨ k = 3 by omega) with h | h | h | h <;> subst h <;> rfl
theorem atI_mp {α : Type} (f : α → D) (l : List α) (k : Int) (d : α) (h0 : 0 ≤ k) (h1 : k < l.length) : atI (l.map f) k = some (f (l.getD k.toNat d)) := by
  rw [atI_pos _ _ h0, List.getElem?_map, List.getD_eq_getElem?_getD, List.getElem?_eq_getElem (by omega)]
  rfl
theorem ixN_pos (n : Nat) (k : Int) (h0 : 0 ≤ k) (h1 : k < n) : ixN n k = some k.toNat := by
  unfold ixN
  rw [if_pos h0, if_pos h1]
theorem set_map {α : Type} (f : α → D) (l : List α) (k : Nat) (x : α) : (l.map f).set k (f x) = (l.set k x).map f := List.map_set.symm
theorem set4 {α : Type} (a b c d x : α) (k : Int) (h0 : 0 ≤ k) (h1 : k < 4) : [a, b, c, d].set k.toNat x = [if k = 0 then x else a, if k = 1 then x else b, if k = 2 then x else c, if k = 3 then x else d] := by
  rcases (show k = 0 ∨ k = 1 ∨ k = 2 ∨ k = 3 by omega) with h | h | h | h <;> subst h <;> rfl
theorem set3 {α : Type} (a b c x : α) (k : Int) (h0 : 0 ≤ k) (h1 : k < 3) : [a, b, c].set k.toNat x = [if k = 0 then x else a, if k = 1 then x else b, if k = 2 then x else c] := by
  rcases (show k = 0 ∨ k = 1 ∨ k = 2 by omega) with h | h | h <;> subst h <;> rfl
theorem app_sing {α β : Type} (f : α → β) (l : List α) (x : α) : l.map f ++ [f x] = (l ++ [x]).map f := by rw [List.map_append]; rfl
theorem cons_map {α β : Type} (f : α → β) (l : List α) (x : α) : f x :: l.map f = (x :: l).map f := rfl
theorem ixN_nat (n k : Nat) : ixN n (k : Int) = if k < n then some k else none := by
  unfold ixN
  rw [if_pos (by omega)]
  by_cases h : k < n
  · rw [if_pos (by omega), if_pos h]; rfl
  · rw [if_neg (by omega), if_neg h]
theorem ixN_lit (n k : Nat) : ixN n (no_index (@OfNat.ofNat Int k instOfNat)) = if k < n then some k else none := ixN_nat n k
theorem xorD_i (i j : Int) : xorD (.int i) (.int j) = some (.v (.int (Builtin.bitXor i j))) := rfl
theorem xor_00 : Builtin.bitXor 0 0 = 0 := by decide +kernel
theorem xor_01 : Builtin.bitXor 0 1 = 1 := by decide +kernel
theorem xor_02 : Builtin.bitXor 0 2 = 2 := by decide +kernel
theorem xor_03 : Builtin.bitXor 0 3 = 3 := by decide +kernel
theorem xor_10 : Builtin.bitXor 1 0 = 1 := by decide +kernel
theorem xor_11 : Builtin.bitXor 1 1 = 0 := by decide +kernel
theorem xor_12 : Builtin.bitXor 1 2 = 3 := by decide +kernel
theorem xor_13 : Builtin.bitXor 1 3 = 2 := by decide +kernel
theorem xor_20 : Builtin.bitXor 2 0 = 2 := by decide +kernel
theorem xor_21 : Builtin.bitXor 2 1 = 3 := by decide +kernel
theorem xor_22 : Builtin.bitXor 2 2 = 0 := by decide +kernel
theorem xor_23 : Builtin.bitXor 2 3 = 1 := by decide +kernel
theorem xor_30 : Builtin.bitXor 3 0 = 3 := by decide +kernel
theorem xor_31 : Builtin.bitXor 3 1 = 2 := by decide +kernel
theorem xor_32 : Builtin.bitXor 3 2 = 1 := by decide +kernel
theorem xor_33 : Builtin.bitXor 3 3 = 0 := by decide +kernel
theorem ix_tup (l : List D) (i : Int) : ixD (.tup l) (.int i) = (atI l i).map .v := rfl
theorem ix_lst (l : List D) (i : Int) : ixD (.lst l) (.int i) = (atI l i).map .v := rfl
theorem ix_scr (l : List D) (i : Int) : ixD (.scr l) (.int i) = (atI l i).map .v := rfl
theorem get_z {α : Type} (a : α) (l : List α) : (a :: l)[0]? = some a := rfl
theorem get_s {α : Type} (a : α) (l : List α) (n : Nat) : (a :: l)[n + 1]? = l[n]? := rfl

theorem slice_e (f : Ev) (lo hi : Sp1) (env : En) : cSl f lo hi env = bindR (f env) fun d => lo.run env fun l => hi.run env fun h => (slD d l h).map Vn.r := rfl
def spR (r : Option Rs) (k : Option Int → Option Rs) : Option Rs := bindR r fun d => match d with
  | .int i => k (some i)
  | _ => none
theorem sp_no (env : En) (k : Option Int → Option Rs) : Sp1.run .no env k = k none := rfl
theorem sp_at (f : Ev) (env : En) (k : Option Int → Option Rs) : Sp1.run (.at f) env k = spR (f env) k := by
  unfold Sp1.run spR
  congr 1
theorem spR_i (i : Int) (k : Option Int → Option Rs) : spR (some (.v (.int i))) k = k (some i) := rfl
theorem slD_t (l : List D) (lo hi : Option Int) : slD (.tup l) lo hi = some (.v (.tup (cutG l lo hi))) := by unfold slD; rfl
theorem slD_l (l : List D) (lo hi : Option Int) : slD (.lst l) lo hi = some (.n (.lst (cutG l lo hi))) := by unfold slD; rfl
theorem cutG_map {α β : Type} (f : α → β) (l : List α) (lo hi : Option Int) : cutG (l.map f) lo hi = (cutG l lo hi).map f := by
  unfold cutG
  rw [List.length_map, List.map_take, List.map_drop]
theorem app_map {α β : Type} (f : α → β) (l m : List α) : l.map f ++ m.map f = (l ++ m).map f := List.map_append.symm
theorem j_map {α β : Type} {c : Prop} [Decidable c] (f : α → β) (l m : List α) : (if c then l.map f else m.map f) = (if c then l else m).map f := by split <;> rfl
theorem addD_l (x y : List D) : addD (.lst x) (.lst y) = if x.length + y.length ≤ 16777216 then some (.n (.lst (x ++ y))) else none := rfl
theorem addD_t (x y : List D) : addD (.tup x) (.tup y) = if x.length + y.length ≤ 16777216 then some (.v (.tup (x ++ y))) else none := rfl
theorem take_map {α β : Type} (f : α → β) (l : List α) (k : Nat) : (l.map f).take k = (l.take k).map f := List.map_take.symm
theorem drop_map {α β : Type} (f : α → β) (l : List α) (k : Nat) : (l.map f).drop k = (l.drop k).map f := List.map_drop.symm
theorem cutG_take {α : Type} (l : List α) (k : Int) (h : 0 ≤ k) : cutG l none (some k) = l.take k.toNat := by
  unfold cutG HT.sIx
  simp only [if_neg (Int.not_lt.2 h), List.drop_zero, Nat.sub_zero]
  rw [List.take_eq_take_iff]
  omega
theorem cutG_drop {α : Type} (l : List α) (k : Int) (h : 0 ≤ k) : cutG l (some k) none = l.drop k.toNat := by
  unfold cutG HT.sIx
  simp only [if_neg (Int.not_lt.2 h)]
  by_cases h1 : k.toNat ≤ l.length
  · rw [Nat.min_eq_left h1, List.take_of_length_le]
    rw [List.length_drop]
    exact Nat.le_refl _
  · rw [Nat.min_eq_right (by omega), Nat.sub_self, List.take_zero, List.drop_eq_nil_of_le (by omega)]

theorem fld_e (cs : List Str) (n : Str) (f : Ev) (env : En) : cFld cs n f env = bindR (f env) fun d => (fldD cs n d).map Vn.r := rfl
theorem meth_e (m : Str) (tbl : List (Str × (List D → Option Rs))) (o : Ev) (fs : List Ev) (env : En) : cMeth m tbl o fs env = bindR (o env) (methR m tbl fs env) := rfl
theorem make_e (C fld : Str) (φ : List D → Option Rs) (fs : List Ev) (env : En) : cMake C fld φ fs env = bindL (evs fs env) fun ds => insR C fld (φ ds) := rfl
theorem insR_x (C fld : Str) (e : D) : insR C fld (some (.x e)) = some (.x e) := rfl
theorem insR_v (C fld : Str) (d : D) : insR C fld (some (.v d)) = some (.v (.ins C [(fld, d)])) := rfl
theorem insR_n (C fld : Str) (d : D) : insR C fld (some (.n d)) = some (.v (.ins C [(fld, d)])) := rfl
/-! exceptions -/
theorem raise_e (C : Str) (env : En) : cRaise C env = some (.x (.exn C []) env) := rfl
theorem flatX_n (C : Str) : D.flatX (.exn C []) = true := rfl
theorem flatX_c (C f : Str) (d : D) (gs : List (Str × D)) : D.flatX (.exn C ((f, d) :: gs)) = (d.flat && D.flatX (.exn C gs)) := rfl
theorem flat_exn (C : Str) (gs : List (Str × D)) : D.flat (.exn C gs) = false := by simp only [D.flat]
def tryR (tbl : List (Str × Bool)) (ie iy : Nat) (r : Option Out) : Option Out := match r with
  | some (.x (.exn C gs) env') => tryX tbl ie iy C gs env'
  | some (.x _ _) => none
  | o => o
theorem try_e (tbl : List (Str × Bool)) (ie iy : Nat) (F : Sm) (env : En) : cTry tbl ie iy F env = tryR tbl ie iy (F env) := rfl
theorem tryR_nx (tbl : List (Str × Bool)) (ie iy : Nat) (env : En) : tryR tbl ie iy (some (.nx env)) = some (.nx env) := rfl
theorem tryR_rt (tbl : List (Str × Bool)) (ie iy : Nat) (u : Vn) : tryR tbl ie iy (some (.rt u)) = some (.rt u) := rfl
theorem tryR_x (tbl : List (Str × Bool)) (ie iy : Nat) (C : Str) (gs : List (Str × D)) (env : En) : tryR tbl ie iy (some (.x (.exn C gs) env)) = tryX tbl ie iy C gs env := rfl
theorem tryR_ite {c : Prop} [Decidable c] (tbl : List (Str × Bool)) (ie iy : Nat) (a b : Option Out) : tryR tbl ie iy (if c then a else b) = if c then tryR tbl ie iy a else tryR tbl ie iy b := by split <;> rfl
def tryY (o : Option Slot) (b : Option Bool) (x y : Option Out) : Option Out := match o, b with
  | some _, some true => x
  | some _, some false => y
  | _, _ => none
theorem tryX_e (tbl : List (Str × Bool)) (ie iy : Nat) (C : Str) (gs : List (Str × D)) (env : En) : tryX tbl ie iy C gs env = tryY (env[ie]?) (tbl.lookup C) (some (.nx ((env.set ie .un).set iy (.sh (.exn C gs))))) (some (.x (.exn C gs) env)) := by
  unfold tryX tryY
  rcases env[ie]? with _ | s
  · rfl
  · rcases tbl.lookup C with _ | _ | _ <;> rfl
theorem tryY_t (s : Slot) (x y : Option Out) : tryY (some s) (some true) x y = x := rfl
theorem tryY_f (s : Slot) (x y : Option Out) : tryY (some s) (some false) x y = y := rfl
def isXR (tbl : List (Str × Bool)) (d : D) : Option Rs := match d with
  | .exn C _ => (tbl.lookup C).map fun b => .v (.bl b)
  | _ => none
theorem isX_e (tbl : List (Str × Bool)) (f : Ev) (env : En) : cIsX tbl f env = bindR (f env) (isXR tbl) := rfl
theorem isXR_x (tbl : List (Str × Bool)) (C : Str) (gs : List (Str × D)) : isXR tbl (.exn C gs) = (tbl.lookup C).map fun b => .v (.bl b) := rfl
theorem is_x (C : Str) (gs : List (Str × D)) : isD (.exn C gs) .non = some (.v (.bl false)) := rfl
theorem isNot_x (C : Str) (gs : List (Str × D)) : isNotD (.exn C gs) .non = some (.v (.bl true)) := rfl
def isCR (tbl : List (Str × Bool)) (d : D) : Option Rs := match d with
  | .ins C _ => (tbl.lookup C).map fun b => .v (.bl b)
  | _ => none
theorem isC_e (tbl : List (Str × Bool)) (f : Ev) (env : En) : cIsC tbl f env = bindR (f env) (isCR tbl) := by
  unfold cIsC
  congr 1
theorem initB_e (np n : Nat) (F : Ev) (ds : List D) : initB np n F ds = if ds.length = np then F (.un :: envOf n ds) else none := rfl
theorem flat_ins (C : Str) (gs : List (Str × D)) : D.flat (.ins C gs) = false := by simp only [D.flat]

/-! ### statements -/
def fin : Option Out → Option Rs
  | some (.rt u) => some u.r
  | some (.nx _) => some (.v .non)
  | some (.x e _) => some (.x e)
  | _ => none
theorem runB_e (np n : Nat) (F : Sm) (ds : List D) : runB np n F ds = if ds.length = np then fin (F (envOf n ds)) else none := by
  unfold runB
  split <;> rfl
theorem runB_0 (n : Nat) (F : Sm) : runB 0 n F [] = fin (F (List.replicate n Slot.un)) := by
  rw [runB_e]
  rfl
theorem envOf_e (n : Nat) (ds : List D) : envOf n ds = ds.map Slot.sh ++ List.replicate (n - ds.length) Slot.un := rfl
theorem fin_rt (u : Vn) : fin (some (.rt u)) = some u.r := rfl
theorem fin_nx (e : En) : fin (some (.nx e)) = some (.v .non) := rfl
theorem fin_x (d : D) (e : En) : fin (some (.x d e)) = some (.x d) := rfl
theorem fin_ite {c : Prop} [Decidable c] (a b : Option Out) : fin (if c then a else b) = if c then fin a else fin b := by split <;> rfl
def seqR (r : Option Out) (G : Sm) : Option Out := match r with
  | some (.nx e) => G e
  | o => o
/-- not by rfl: simp would merge such steps into one, and the kernel's check of a long chain of statements would double with each -/
theorem seq_e (F G : Sm) (e : En) : cSeq F G e = seqR (F e) G := by
  unfold cSeq seqR
  rcases F e with _ | _ | _ | _ | _ | _ <;> rfl
theorem seq_nx (e : En) (G : Sm) : seqR (some (.nx e)) G = G e := by
  have h : ∀ o, o = some (.nx e) → seqR o G = G e := by
    intro o h
    subst h
    rfl
  exact h _ rfl
theorem seq_rt (u : Vn) (G : Sm) : seqR (some (.rt u)) G = some (.rt u) := rfl
theorem seq_bk (e : En) (G : Sm) : seqR (some (.bk e)) G = some (.bk e) := rfl
theorem seq_ct (e : En) (G : Sm) : seqR (some (.ct e)) G = some (.ct e) := rfl
theorem seq_x (d : D) (e : En) (G : Sm) : seqR (some (.x d e)) G = some (.x d e) := rfl
theorem seq_ite {c : Prop} [Decidable c] (a b : Option Out) (G : Sm) : seqR (if c then a else b) G = if c then seqR a G else seqR b G := by split <;> rfl
theorem nil_e (e : En) : cNil e = some (.nx e) := rfl
theorem mask_e (nm : List Nat) (e : En) : mask nm e = maskGo nm 0 e := rfl
theorem mask_n (nm : List Nat) (k : Nat) : maskGo nm k [] = [] := rfl
theorem mask_sh (nm : List Nat) (k : Nat) (d : D) (e : En) : maskGo nm k (.sh d :: e) = .sh d :: maskGo nm (k + 1) e := rfl
theorem mask_un (nm : List Nat) (k : Nat) (e : En) : maskGo nm k (.un :: e) = .un :: maskGo nm (k + 1) e := rfl
theorem mask_own (nm : List Nat) (k : Nat) (d : D) (e : En) : maskGo nm k (.own d :: e) = (if nm.contains k then .own d else .un) :: maskGo nm (k + 1) e := rfl
theorem mask_ite {c : Prop} [Decidable c] (nm : List Nat) (k : Nat) (s t : Slot) (e : En) : maskGo nm k ((if c then s else t) :: e) = (if c then maskS (nm.contains k) s else maskS (nm.contains k) t) :: maskGo nm (k + 1) e := by split <;> rfl
theorem frz_e (nm : List Nat) (e : En) : freeze nm e = frzGo nm 0 e := rfl
theorem frz_n (nm : List Nat) (k : Nat) : frzGo nm k [] = [] := rfl
theorem frz_sh (nm : List Nat) (k : Nat) (d : D) (e : En) : frzGo nm k (.sh d :: e) = .sh d :: frzGo nm (k + 1) e := rfl
theorem frz_un (nm : List Nat) (k : Nat) (e : En) : frzGo nm k (.un :: e) = .un :: frzGo nm (k + 1) e := rfl
theorem frz_own (nm : List Nat) (k : Nat) (d : D) (e : En) : frzGo nm k (.own d :: e) = (if nm.contains k then .sh d else .own d) :: frzGo nm (k + 1) e := rfl
theorem frz_ite {c : Prop} [Decidable c] (nm : List Nat) (k : Nat) (s t : Slot) (e : En) : frzGo nm k ((if c then s else t) :: e) = (if c then frzS (nm.contains k) s else frzS (nm.contains k) t) :: frzGo nm (k + 1) e := by split <;> rfl
def evxR (r : Option Rs) (nm : List Nat) (env : En) (k : Vn → En → Option Out) : Option Out := match r with
  | none => none
  | some (.x e) => if e.flatX then some (.x e env) else none
  | some (.v d) => if d.flat then k (.v d) env else k (.v d) (freeze nm env)
  | some (.n d) => if d.flatN then k (.n d) env else k (.n d) (freeze nm env)
theorem evx_e (nm : List Nat) (f : Ev) (env : En) (k : Vn → En → Option Out) : evx nm f env k = evxR (f (mask nm env)) nm env k := by
  unfold evx evxR
  rcases f (mask nm env) with _ | _ | _ | _ <;> rfl
/-- nothing to freeze -/
theorem maskGo_nil : ∀ (k : Nat) (e : En), frzGo [] k e = e
  | _, [] => rfl
  | k, s :: r => by
    rw [frzGo, maskGo_nil (k + 1) r]
    cases s <;> rfl
theorem frz_nil (e : En) : freeze [] e = e := maskGo_nil 0 e
theorem evxR_v0 (d : D) (env : En) (k : Vn → En → Option Out) : evxR (some (.v d)) [] env k = k (.v d) env := by
  show (if d.flat then _ else _) = _
  rw [frz_nil, ite_self]
theorem evxR_n0 (d : D) (env : En) (k : Vn → En → Option Out) : evxR (some (.n d)) [] env k = k (.n d) env := by
  show (if d.flatN then _ else _) = _
  rw [frz_nil, ite_self]
theorem evxR_v (d : D) (nm : List Nat) (env : En) (k : Vn → En → Option Out) : evxR (some (.v d)) nm env k = if d.flat then k (.v d) env else k (.v d) (freeze nm env) := rfl
theorem evxR_n (d : D) (nm : List Nat) (env : En) (k : Vn → En → Option Out) : evxR (some (.n d)) nm env k = if d.flatN then k (.n d) env else k (.n d) (freeze nm env) := rfl
theorem evxR_x (d : D) (nm : List Nat) (env : En) (k : Vn → En → Option Out) : evxR (some (.x d)) nm env k = if d.flatX then some (.x d env) else none := rfl
theorem evxR_ite {c : Prop} [Decidable c] (a b : Option Rs) (nm : List Nat) (env : En) (k : Vn → En → Option Out) : evxR (if c then a else b) nm env k = if c then evxR a nm env k else evxR b nm env k := by split <;> rfl
theorem set_e (i : Nat) (nm : List Nat) (f : Ev) (env : En) : cSet i nm f env = evxR (f (mask nm env)) nm env fun u env1 => some (.nx (env1.set i u.slot)) := evx_e _ _ _ _
theorem slot_v (d : D) : Vn.slot (.v d) = .sh d := rfl
theorem slot_nl (l : List D) : Vn.slot (.n (.lst l)) = .own (.lst l) := rfl
theorem slot_nd (l : List (D × D)) : Vn.slot (.n (.dic l)) = .own (.dic l) := rfl
theorem slot_ni (l : List (D × D)) : Vn.slot (.n (.dit l)) = .own (.dit l) := rfl
theorem slot_nt (l : List D) : Vn.slot (.n (.tup l)) = .un := rfl
theorem lset_z {α : Type} (a b : α) (l : List α) : (a :: l).set 0 b = b :: l := rfl
theorem lset_s {α : Type} (a b : α) (l : List α) (n : Nat) : (a :: l).set (n + 1) b = a :: l.set n b := rfl
def setTR (is : List Nat) (u : Vn) (env : En) : Option Out := match u with
  | .v d => ((Tg.tu is).set d env).map .nx
  | _ => none
theorem setT_e (is : List Nat) (nm : List Nat) (f : Ev) (env : En) : cSetT is nm f env = evxR (f (mask nm env)) nm env (setTR is) := evx_e _ _ _ _
theorem setTR_v (is : List Nat) (d : D) (env : En) : setTR is (.v d) env = ((Tg.tu is).set d env).map .nx := rfl
theorem setU_e (is : List Nat) (nm : List Nat) (f : Ev) (env : En) : cSetU is nm f env = evxR (f (mask nm env)) nm env (setUR is) := evx_e _ _ _ _
theorem setUR_e (is : List Nat) (u : Vn) (env : En) : setUR is u env = (sqD u.d).bind fun ds => (setAll is ds env).map .nx := rfl
theorem tgTu (is : List Nat) (ds : List D) (env : En) : (Tg.tu is).set (.tup ds) env = setAll is ds env := rfl
theorem tgNm (i : Nat) (d : D) (env : En) : (Tg.nm i).set d env = some (env.set i (.sh d)) := rfl
theorem setAll_n (env : En) : setAll [] [] env = some env := rfl
theorem setAll_c (i : Nat) (is : List Nat) (d : D) (ds : List D) (env : En) : setAll (i :: is) (d :: ds) env = setAll is ds (env.set i (.sh d)) := rfl
def retR (r : Option Rs) (env : En) : Option Out := match r with
  | none => none
  | some (.x e) => if e.flatX then some (.x e env) else none
  | some (.v d) => some (.rt (.v d))
  | some (.n d) => some (.rt (.n d))
theorem ret_e (nm : List Nat) (f : Ev) (env : En) : cRet nm f env = retR (f (mask nm env)) env := by
  unfold cRet retR
  rcases f (mask nm env) with _ | _ | _ | _ <;> rfl
theorem retR_v (d : D) (env : En) : retR (some (.v d)) env = some (.rt (.v d)) := rfl
theorem retR_n (d : D) (env : En) : retR (some (.n d)) env = some (.rt (.n d)) := rfl
theorem retR_x (d : D) (env : En) : retR (some (.x d)) env = if d.flatX then some (.x d env) else none := rfl
theorem retR_ite {c : Prop} [Decidable c] (a b : Option Rs) (env : En) : retR (if c then a else b) env = if c then retR a env else retR b env := by split <;> rfl
def retVR (s : Option Slot) : Option Out := match s with
  | some (.sh d) => some (.rt (.v d))
  | some (.own d) => some (.rt (.n d))
  | _ => none
theorem retV_e (i : Nat) (env : En) : cRetV i env = retVR (env[i]?) := by
  unfold cRetV retVR
  rcases env[i]? with _ | _ | _ | _ <;> rfl
theorem retVR_sh (d : D) : retVR (some (.sh d)) = some (.rt (.v d)) := rfl
theorem retVR_own (d : D) : retVR (some (.own d)) = some (.rt (.n d)) := rfl
theorem retN_e (e : En) : cRetN e = some (.rt (.v .non)) := rfl
theorem expr_e (nm : List Nat) (f : Ev) (env : En) : cExpr nm f env = evxR (f (mask nm env)) nm env fun _ env1 => some (.nx env1) := evx_e _ _ _ _
def ifR (r : Option Rt) (env : En) (a b : Option Out) : Option Out := match r with
  | none => none
  | some (.x e) => if e.flatX then some (.x e env) else none
  | some (.ok true) => a
  | some (.ok false) => b
theorem if_e (nm : List Nat) (c : Tv) (F G : Sm) (env : En) : cIf nm c F G env = ifR (c (mask nm env)) env (F env) (G env) := by
  unfold cIf ifR
  rcases c (mask nm env) with _ | (_ | _) | _ <;> rfl
theorem ifR_ok (b : Bool) (env : En) (x y : Option Out) : ifR (some (.ok b)) env x y = if b then x else y := by cases b <;> rfl
theorem ifR_t (env : En) (x y : Option Out) : ifR (some (.ok true)) env x y = x := rfl
theorem ifR_f (env : En) (x y : Option Out) : ifR (some (.ok false)) env x y = y := rfl
def parR (i j : Nat) (nm : List Nat) (env : En) : List D → Option Out
  | [d, e] => if d.flat && e.flat then some (.nx ((env.set i (.sh d)).set j (.sh e))) else some (.nx (((freeze nm env).set i (.sh d)).set j (.sh e)))
  | _ => none
def parL (i j : Nat) (nm : List Nat) (env : En) (r : Option Rl) : Option Out := match r with
  | some (.ok ds) => parR i j nm env ds
  | some (.x e) => if e.flatX then some (.x e env) else none
  | none => none
theorem par_e (i j : Nat) (nm : List Nat) (f g : Ev) (env : En) : cPar i j nm f g env = parL i j nm env (evs [f, g] (mask nm env)) := by
  unfold cPar parL
  rcases evs [f, g] (mask nm env) with _ | (_ | ⟨a, _ | ⟨b, _ | _⟩⟩) | _ <;> rfl
theorem parL_ok (i j : Nat) (nm : List Nat) (env : En) (d e : D) : parL i j nm env (some (.ok [d, e])) = if d.flat && e.flat then some (.nx ((env.set i (.sh d)).set j (.sh e))) else some (.nx (((freeze nm env).set i (.sh d)).set j (.sh e))) := rfl

theorem parL_0 (i j : Nat) (env : En) (d e : D) : parL i j [] env (some (.ok [d, e])) = some (.nx ((env.set i (.sh d)).set j (.sh e))) := by
  show (if d.flat && e.flat then _ else _) = _
  rw [frz_nil, ite_self]

/-! ### loops -/
def fstep (o : Option Out) (tg : Tg) (body : Sm) (r : List D) : Option Out := match o with
  | some (.nx e2) => forGo tg body e2 r
  | some (.ct e2) => forGo tg body e2 r
  | some (.bk e2) => some (.nx e2)
  | o => o
def fset (o : Option En) (tg : Tg) (body : Sm) (r : List D) : Option Out := match o with
  | none => none
  | some e1 => fstep (body e1) tg body r
theorem for_n (tg : Tg) (body : Sm) (env : En) : forGo tg body env [] = some (.nx env) := rfl
theorem for_c (tg : Tg) (body : Sm) (env : En) (d : D) (r : List D) : forGo tg body env (d :: r) = fset (tg.set d env) tg body r := by
  rw [forGo.eq_def]
  unfold fset fstep
  rfl
theorem fset_s (e : En) (tg : Tg) (body : Sm) (r : List D) : fset (some e) tg body r = fstep (body e) tg body r := rfl
theorem fstep_nx (e : En) (tg : Tg) (body : Sm) (r : List D) : fstep (some (.nx e)) tg body r = forGo tg body e r := rfl
theorem fstep_ct (e : En) (tg : Tg) (body : Sm) (r : List D) : fstep (some (.ct e)) tg body r = forGo tg body e r := rfl
theorem fstep_bk (e : En) (tg : Tg) (body : Sm) (r : List D) : fstep (some (.bk e)) tg body r = some (.nx e) := rfl
theorem fstep_rt (u : Vn) (tg : Tg) (body : Sm) (r : List D) : fstep (some (.rt u)) tg body r = some (.rt u) := rfl
theorem fstep_x (d : D) (e : En) (tg : Tg) (body : Sm) (r : List D) : fstep (some (.x d e)) tg body r = some (.x d e) := rfl
theorem fstep_ite {c : Prop} [Decidable c] (a b : Option Out) (tg : Tg) (body : Sm) (r : List D) : fstep (if c then a else b) tg body r = if c then fstep a tg body r else fstep b tg body r := by split <;> rfl
/-- a loop over a range: the frame behind k turns is e k -/
theorem for_rg {i : Nat} {body : Sm} : ∀ (n : Nat) (lo : Int) (e : Nat → En), (∀ k : Nat, k < n → body ((e k).set i (.sh (.int (lo + (k : Int))))) = some (.nx (e (k + 1)))) → forGo (.nm i) body (e 0) (rgD lo n) = some (.nx (e n))
  | 0, _, _, _ => rfl
  | n + 1, lo, e, h => by
    have h0 := h 0 (Nat.succ_pos n)
    rw [Int.natCast_zero, Int.add_zero] at h0
    have h1 := for_rg n (lo + 1) (fun k => e (k + 1)) fun k hk => by
      have := h (k + 1) (Nat.succ_lt_succ hk)
      rw [Int.natCast_add, Int.natCast_one, ← Int.add_assoc, Int.add_right_comm] at this
      exact this
    rw [show rgD lo (n + 1) = .int lo :: rgD (lo + 1) n from by
      unfold rgD
      rw [List.range_succ_eq_map, List.map_cons, List.map_map]
      congr 1
      · simp
      · apply List.map_congr_left
        intro a _
        simp only [Function.comp]
        congr 1
        omega, for_c, tgNm, fset_s, h0, fstep_nx]
    exact h1
/-- the name of a loop over a list, behind the items done -/
def lastS {α : Type} (f : α → D) (l : List α) : Slot := match l.getLast? with
  | none => .un
  | some x => .sh (f x)
theorem lastS_n {α : Type} (f : α → D) : lastS f [] = .un := rfl
theorem lastS_s {α : Type} (f : α → D) (l : List α) (x : α) : lastS f (l ++ [x]) = .sh (f x) := by
  unfold lastS
  rw [List.getLast?_concat]
theorem mask_lastS {α : Type} (f : α → D) (l : List α) (nm : List Nat) (k : Nat) (e : En) : maskGo nm k (lastS f l :: e) = lastS f l :: maskGo nm (k + 1) e := by
  unfold lastS
  rcases l.getLast? with _ | _ <;> rfl
theorem frz_lastS {α : Type} (f : α → D) (l : List α) (nm : List Nat) (k : Nat) (e : En) : frzGo nm k (lastS f l :: e) = lastS f l :: frzGo nm (k + 1) e := by
  unfold lastS
  rcases l.getLast? with _ | _ <;> rfl
/-- a loop over a list: the frame is a function of the items done -/
theorem for_st {tg : Tg} {body : Sm} {α : Type} {f : α → D} (st : List α → En) : ∀ (l done : List α), (∀ (d : List α) (x : α) (r : List α), done ++ l = d ++ x :: r → ∃ e1, tg.set (f x) (st d) = some e1 ∧ body e1 = some (.nx (st (d ++ [x])))) → forGo tg body (st done) (l.map f) = some (.nx (st (done ++ l)))
  | [], done, _ => by rw [List.append_nil]; rfl
  | x :: l, done, H => by
    obtain ⟨e1, h1, h2⟩ := H done x l rfl
    have h4 := for_st (f := f) st l (done ++ [x]) fun d y r he => H d y r (by rw [← he, List.append_assoc]; rfl)
    rw [List.map_cons, for_c, h1, fset_s, h2, fstep_nx, h4, List.append_assoc]
    rfl
/-- a loop's name behind n turns over a range -/
def lv (lo : Int) : Nat → Slot
  | 0 => .un
  | n + 1 => .sh (.int (lo + (n : Int)))
theorem lv_z (lo : Int) : lv lo 0 = .un := rfl
theorem lv_s0 (lo : Int) (n : Nat) : lv lo (n + 1) = .sh (.int (lo + (n : Int))) := rfl
theorem mask_lv (nm : List Nat) (k : Nat) (lo : Int) (n : Nat) (e : En) : maskGo nm k (lv lo n :: e) = lv lo n :: maskGo nm (k + 1) e := by cases n <;> rfl
theorem frz_lv (nm : List Nat) (k : Nat) (lo : Int) (n : Nat) (e : En) : frzGo nm k (lv lo n :: e) = lv lo n :: frzGo nm (k + 1) e := by cases n <;> rfl
/-- a loop over a list: the frame behind the items I k is e -/
theorem for_inv {tg : Tg} {body : Sm} {α : Type} {f : α → D} (I : List α → En → Prop) : ∀ (l done : List α) (e : En), I done e → (∀ (d : List α) (x : α) (r : List α) (e : En), done ++ l = d ++ x :: r → I d e → ∃ e1 e2, tg.set (f x) e = some e1 ∧ body e1 = some (.nx e2) ∧ I (d ++ [x]) e2) → ∃ e', forGo tg body e (l.map f) = some (.nx e') ∧ I (done ++ l) e'
  | [], done, e, h, _ => ⟨e, rfl, by rw [List.append_nil]; exact h⟩
  | x :: l, done, e, h, H => by
    obtain ⟨e1, e2, h1, h2, h3⟩ := H done x l e rfl h
    obtain ⟨e', h4, h5⟩ := for_inv I l (done ++ [x]) e2 h3 fun d y r e he hI => H d y r e (by rw [← he, List.append_assoc]; rfl) hI
    refine ⟨e', ?_, ?_⟩
    · rw [List.map_cons, for_c, h1, fset_s, h2, fstep_nx]
      exact h4
    · rw [List.append_assoc] at h5
      exact h5
def forR (r : Option Ri) (nm : List Nat) (tg : Tg) (body : Sm) (env : En) : Option Out := match r with
  | none => none
  | some (.x e) => if e.flatX then some (.x e env) else none
  | some (.ok ds true) => forGo tg body (freeze nm env) ds
  | some (.ok ds false) => forGo tg body env ds
theorem for_e (nm : List Nat) (g : Iv) (tg : Tg) (body : Sm) (env : En) : cFor nm g tg body env = forR (g (mask nm env)) nm tg body env := by
  unfold cFor forR
  rcases g (mask nm env) with _ | ⟨_, _ | _⟩ | _ <;> rfl
theorem forR_t (ds : List D) (nm : List Nat) (tg : Tg) (body : Sm) (env : En) : forR (some (.ok ds true)) nm tg body env = forGo tg body (freeze nm env) ds := rfl
theorem forR_f (ds : List D) (nm : List Nat) (tg : Tg) (body : Sm) (env : En) : forR (some (.ok ds false)) nm tg body env = forGo tg body env ds := rfl
theorem bindI_v (d : D) (k : D → Option Ri) : bindI (some (.v d)) k = k d := rfl
theorem bindI_n (d : D) (k : D → Option Ri) : bindI (some (.n d)) k = k d := rfl
theorem iSeq_e (f : Ev) (e : En) : iSeq f e = bindI (f e) seqD := rfl
theorem seqD_t (l : List D) : seqD (.tup l) = some (.ok l true) := rfl
theorem seqD_l (l : List D) : seqD (.lst l) = some (.ok l true) := rfl
theorem seqD_s (l : List D) : seqD (.scr l) = some (.ok l true) := rfl
theorem bindLI_ok (ds : List D) (k : List D → Option Ri) : bindLI (some (.ok ds)) k = k ds := rfl
def rg1 : List D → Option Ri
  | [.int j] => if rgOk j then some (.ok (rgD 0 j.toNat) false) else none
  | _ => none
def rg2 : List D → Option Ri
  | [.int i, .int j] => if rgOk i && rgOk j then some (.ok (rgD i (j - i).toNat) false) else none
  | _ => none
theorem iRange1_e (f : Ev) (e : En) : iRange1 f e = bindLI (evs [f] e) rg1 := by
  unfold iRange1
  congr 1
theorem iRange2_e (f g : Ev) (e : En) : iRange2 f g e = bindLI (evs [f, g] e) rg2 := by
  unfold iRange2
  congr 1
theorem rgOk_of {i : Int} {n : Nat} [a : SzC i n] (h1 : n ≤ 61) : rgOk i = true := by
  have h2 : i.natAbs < 2 ^ 61 := Nat.lt_of_lt_of_le a.lt (Nat.pow_le_pow_right (by decide) h1)
  unfold rgOk
  exact decide_eq_true ⟨by omega, by omega⟩
theorem rg1_i {j : Int} {n : Nat} [a : SzC j n] (h : n ≤ 61) : rg1 [.int j] = some (.ok (rgD 0 j.toNat) false) := by
  show (if rgOk j then _ else _) = _
  rw [rgOk_of h]
  rfl
theorem rg2_i {i j : Int} {m n : Nat} [SzC i m] [SzC j n] (h : m ≤ 61) (h2 : n ≤ 61) : rg2 [.int i, .int j] = some (.ok (rgD i (j - i).toNat) false) := by
  show (if rgOk i && rgOk j then _ else _) = _
  rw [rgOk_of h, rgOk_of h2]
  rfl
theorem rgD_z (lo : Int) : rgD lo 0 = [] := rfl
theorem rgD_s (lo : Int) (n : Nat) : rgD lo (n + 1) = .int lo :: rgD (lo + 1) n := by
  unfold rgD
  rw [List.range_succ_eq_map, List.map_cons, List.map_map]
  congr 1
  · simp
  · apply List.map_congr_left
    intro a _
    simp only [Function.comp]
    congr 1
    push_cast
    omega
def en1 : List D → Option Ri
  | [.lst l] => some (.ok (enD 0 l) true)
  | [.scr l] => some (.ok (enD 0 l) true)
  | _ => none
theorem iEn_e (fs : List Ev) (e : En) : iEn fs e = bindLI (evs fs e) en1 := by
  unfold iEn
  congr 1
theorem en1_l (l : List D) : en1 [.lst l] = some (.ok (enD 0 l) true) := rfl
theorem en1_s (l : List D) : en1 [.scr l] = some (.ok (enD 0 l) true) := rfl
theorem enD_n (k : Nat) : enD k [] = [] := rfl
theorem enD_c (k : Nat) (x : D) (l : List D) : enD k (x :: l) = .tup [.int k, x] :: enD (k + 1) l := rfl
def en2 : List D → Option Ri
  | [.lst l] => some (.ok (enD 0 l) true)
  | [.scr l] => some (.ok (enD 0 l) true)
  | [.tup l] => some (.ok (enD 0 l) true)
  | _ => none
theorem iEnA_e (fs : List Ev) (e : En) : iEnA fs e = bindLI (evs fs e) en2 := by
  unfold iEnA
  congr 1
theorem en2_l (l : List D) : en2 [.lst l] = some (.ok (enD 0 l) true) := rfl
theorem en2_s (l : List D) : en2 [.scr l] = some (.ok (enD 0 l) true) := rfl
theorem en2_t (l : List D) : en2 [.tup l] = some (.ok (enD 0 l) true) := rfl
def zp2 : List D → Option Ri
  | [.lst l, .lst m] => some (.ok (prD l m) true)
  | [.tup l, .tup m] => some (.ok (prD l m) true)
  | _ => none
theorem iZp_e (fs : List Ev) (e : En) : iZp fs e = bindLI (evs fs e) zp2 := by
  unfold iZp
  congr 1
theorem iZq_e (fs : List Ev) (e : En) : iZq fs e = bindLI (evs fs e) zq2 := rfl
theorem zq2_e (x y : D) : zq2 [x, y] = (sqD x).bind fun l => (sqD y).map fun m => .ok (prD l m) true := rfl
theorem sqD_t (l : List D) : sqD (.tup l) = some l := rfl
theorem sqD_l (l : List D) : sqD (.lst l) = some l := rfl
theorem sqD_s (l : List D) : sqD (.scr l) = some l := rfl
theorem zp2_l (l m : List D) : zp2 [.lst l, .lst m] = some (.ok (prD l m) true) := rfl
theorem zp2_t (l m : List D) : zp2 [.tup l, .tup m] = some (.ok (prD l m) true) := rfl
theorem prD_c (x y : D) (l m : List D) : prD (x :: l) (y :: m) = .tup [x, y] :: prD l m := rfl
theorem prD_n (m : List D) : prD [] m = [] := by cases m <;> rfl
theorem prD_n' (m : List D) : prD m [] = [] := by cases m <;> rfl
def rv1 : D → Option Ri
  | .tup l => some (.ok l.reverse true)
  | .lst l => some (.ok l.reverse true)
  | _ => none
theorem iRv_e (f : Ev) (e : En) : iRv f e = bindI (f e) rv1 := by
  unfold iRv
  congr 1
theorem rv1_t (l : List D) : rv1 (.tup l) = some (.ok l.reverse true) := rfl
theorem rv1_l (l : List D) : rv1 (.lst l) = some (.ok l.reverse true) := rfl

/-! ### list displays of loops -/
def lcR (r : Option Ri) (vs : List Nat) (tg : Tg) (c : Tv) (elt : Ev) (env : En) : Option Rs := match r with
  | some (.ok ds _) => if ds.length ≤ 16777216 then (lcGo tg c elt (wipeE env vs) ds).map fun l => .n (.lst l) else none
  | some (.x e) => some (.x e)
  | none => none
theorem lc_e (g : Iv) (vs : List Nat) (tg : Tg) (c : Tv) (elt : Ev) (env : En) : cLc g vs tg c elt env = lcR (g env) vs tg c elt env := rfl
theorem lcR_ok (ds : List D) (z : Bool) (vs : List Nat) (tg : Tg) (c : Tv) (elt : Ev) (env : En) : lcR (some (.ok ds z)) vs tg c elt env = if ds.length ≤ 16777216 then (lcGo tg c elt (wipeE env vs) ds).map fun l => .n (.lst l) else none := rfl
theorem wipe_n (env : En) : wipeE env [] = env := rfl
theorem wipe_c (env : En) (v : Nat) (vs : List Nat) : wipeE env (v :: vs) = (wipeE env vs).set v .un := rfl
def lcons (r : Option Rs) (l : Option (List D)) : Option (List D) := match r with
  | some (.v y) => l.map (y :: ·)
  | some (.n y) => l.map (y :: ·)
  | _ => none
def ltest (r : Option Rt) (a b : Option (List D)) : Option (List D) := match r with
  | some (.ok true) => a
  | some (.ok false) => b
  | _ => none
def lset (o : Option En) (tg : Tg) (c : Tv) (elt : Ev) (env : En) (r : List D) : Option (List D) := match o with
  | none => none
  | some e1 => ltest (c e1) (lcons (elt e1) (lcGo tg c elt env r)) (lcGo tg c elt env r)
theorem lc_n (tg : Tg) (c : Tv) (elt : Ev) (env : En) : lcGo tg c elt env [] = some [] := rfl
theorem lc_c (tg : Tg) (c : Tv) (elt : Ev) (env : En) (d : D) (r : List D) : lcGo tg c elt env (d :: r) = lset (tg.set d env) tg c elt env r := by
  rw [lcGo.eq_def]
  unfold lset ltest lcons
  dsimp only
  try (
    rcases tg.set d env with _ | e1
    · rfl
    · dsimp only
      rcases c e1 with _ | (_ | _) | _
      · rfl
      · rfl
      · rcases elt e1 with _ | _ | _ | _ <;> rfl
      · rfl)
theorem lset_some (e : En) (tg : Tg) (c : Tv) (elt : Ev) (env : En) (r : List D) : lset (some e) tg c elt env r = ltest (c e) (lcons (elt e) (lcGo tg c elt env r)) (lcGo tg c elt env r) := rfl
theorem ltest_t (a b : Option (List D)) : ltest (some (.ok true)) a b = a := rfl
theorem ltest_ok (b : Bool) (x y : Option (List D)) : ltest (some (.ok b)) x y = if b then x else y := by cases b <;> rfl
theorem lcons_v (y : D) (l : Option (List D)) : lcons (some (.v y)) l = l.map (y :: ·) := rfl
theorem lcons_n (y : D) (l : Option (List D)) : lcons (some (.n y)) l = l.map (y :: ·) := rfl
/-- over data of one shape -/
theorem lc_map {α : Type} {tg : Tg} {elt : Ev} {env : En} {h k : α → D} : ∀ (l : List α), (∀ x ∈ l, ∃ e, tg.set (h x) env = some e ∧ (elt e = some (.v (k x)) ∨ elt e = some (.n (k x)))) → lcGo tg tYes' elt env (l.map h) = some (l.map k)
  | [], _ => rfl
  | x :: l, H => by
    obtain ⟨e, h1, h2⟩ := H x (List.mem_cons_self ..)
    rw [List.map_cons, lc_c, h1, lset_some, tYes_e, ltest_t, lc_map l fun y hy => H y (List.mem_cons_of_mem _ hy)]
    rcases h2 with h2 | h2 <;> rw [h2] <;> rfl

/-! ### lists of one's own -/
def onR (s : Option Slot) (i : Nat) (env : En) (k : List D → Option (List D)) : Option Out := match s with
  | some (.own (.lst l)) => (k l).map fun l' => .nx (env.set i (.own (.lst l')))
  | _ => none
theorem on_e (i : Nat) (env : En) (k : List D → Option (List D)) : onLst i env k = onR (env[i]?) i env k := by
  unfold onLst onR
  rcases env[i]? with _ | _ | _ | z <;> first | rfl | (cases z <;> rfl)
theorem onR_l (l : List D) (i : Nat) (env : En) (k : List D → Option (List D)) : onR (some (.own (.lst l))) i env k = (k l).map fun l' => .nx (env.set i (.own (.lst l'))) := rfl
def isLR (s : Option Slot) : Bool := match s with
  | some (.own (.lst _)) => true
  | _ => false
theorem isL_e (i : Nat) (env : En) : isL i env = isLR (env[i]?) := by
  unfold isL isLR
  rcases env[i]? with _ | _ | _ | z <;> first | rfl | (cases z <;> rfl)
theorem isLR_l (l : List D) : isLR (some (.own (.lst l))) = true := rfl
theorem rev_e (i : Nat) (env : En) : cRev i env = onLst i env fun l => some l.reverse := rfl
theorem clr_e (i : Nat) (env : En) : cClr i env = onLst i env fun _ => some [] := rfl
theorem app_e (i : Nat) (nm : List Nat) (f : Ev) (env : En) : cApp i nm f env = if isL i env then evxR (f (mask nm env)) nm env (fun u env1 => onLst i env1 fun l => if l.length < 16777216 then some (l ++ [u.d]) else none) else none := by
  unfold cApp
  rw [evx_e]
  rfl
def extR (i : Nat) (u : D) (env1 : En) : Option Out := match u with
  | .lst m => onLst i env1 fun l => if l.length + m.length ≤ 16777216 then some (l ++ m) else none
  | _ => none
theorem ext_e (i : Nat) (nm : List Nat) (f : Ev) (env : En) : cExtend i nm f env = if isL i env then evxR (f (mask nm env)) nm env (fun u env1 => extR i u.d env1) else none := by
  unfold cExtend
  rw [evx_e]
  rfl
theorem extR_l (i : Nat) (m : List D) (env1 : En) : extR i (.lst m) env1 = onLst i env1 fun l => if l.length + m.length ≤ 16777216 then some (l ++ m) else none := rfl
def setIR (i : Nat) (u : Vn) (w : D) (env2 : En) : Option Out := match w with
  | .int k => onLst i env2 fun l => (ixN l.length k).map fun j => l.set j u.d
  | _ => none
theorem setIx_e (i : Nat) (nm : List Nat) (f ix : Ev) (env : En) : cSetIx i nm f ix env = evxR (f (mask nm env)) nm env fun u env1 => if isL i env1 then evxR (ix (mask nm env1)) nm env1 (fun w env2 => setIR i u w.d env2) else none := by
  unfold cSetIx
  rw [evx_e]
  congr 1
theorem setIR_i (i : Nat) (u : Vn) (k : Int) (env2 : En) : setIR i u (.int k) env2 = onLst i env2 fun l => (ixN l.length k).map fun j => l.set j u.d := rfl

/-! ### dicts of one's own -/
theorem newD_e (e : En) : cNewD e = some (.n (.dic [])) := rfl
theorem look_i (l : List (D × D)) (i : Int) : lookD (.dic l) (.int i) = some (lookK l (.inl i)) := rfl
theorem look_s (l : List (D × D)) (i : Str) : lookD (.dic l) (.str i) = some (lookK l (.inr i)) := rfl
theorem in_di (l : List (D × D)) (i : Int) : inD (.int i) (.dic l) = some (.v (.bl (lookK l (.inl i)).isSome)) := rfl
theorem in_ds (l : List (D × D)) (i : Str) : inD (.str i) (.dic l) = some (.v (.bl (lookK l (.inr i)).isSome)) := rfl
theorem ni_di (l : List (D × D)) (i : Int) : notInD (.int i) (.dic l) = some (.v (.bl (!(lookK l (.inl i)).isSome))) := rfl
theorem ni_ds (l : List (D × D)) (i : Str) : notInD (.str i) (.dic l) = some (.v (.bl (!(lookK l (.inr i)).isSome))) := rfl
theorem ix_di (l : List (D × D)) (i : Int) : ixD (.dic l) (.int i) = (lookK l (.inl i)).map .v := rfl
theorem ix_ds (l : List (D × D)) (i : Str) : ixD (.dic l) (.str i) = (lookK l (.inr i)).map .v := rfl
theorem flatN_d0 : D.flatN (.dic []) = true := rfl
theorem flat_dic (l : List (D × D)) : D.flat (.dic l) = false := by simp only [D.flat]
def stoR (a b : Option Out) : Option Out := match a with
  | some o => some o
  | none => b
theorem store_e (i : Nat) (nm : List Nat) (f ix : Ev) (env : En) : cStore i nm f ix env = stoR (cSetIx i nm f ix env) (cPutIx i nm f ix env) := by
  unfold cStore stoR
  rcases cSetIx i nm f ix env with _ | _ <;> rfl
theorem stoR_some (o : Out) (b : Option Out) : stoR (some o) b = some o := rfl
theorem stoR_none (b : Option Out) : stoR none b = b := rfl
theorem isLR_d (l : List (D × D)) : isLR (some (.own (.dic l))) = false := rfl
def isDR (s : Option Slot) : Bool := match s with
  | some (.own (.dic _)) => true
  | _ => false
theorem isDk_e (i : Nat) (env : En) : isDk i env = isDR (env[i]?) := by
  unfold isDk isDR
  rcases env[i]? with _ | _ | _ | z <;> first | rfl | (cases z <;> rfl)
theorem isDR_d (l : List (D × D)) : isDR (some (.own (.dic l))) = true := rfl
def putR (i : Nat) (u w : D) (env2 : En) : Option Out := match keyOf w with
  | some k => onDic i env2 k u
  | none => none
theorem putIx_e (i : Nat) (nm : List Nat) (f ix : Ev) (env : En) : cPutIx i nm f ix env = evxR (f (mask nm env)) nm env fun u env1 => if isDk i env1 then evxR (ix (mask nm env1)) nm env1 (fun w env2 => putR i u.d w.d env2) else none := by
  unfold cPutIx
  rw [evx_e]
  congr 1
theorem putR_i (i : Nat) (u : D) (k : Int) (env2 : En) : putR i u (.int k) env2 = onDic i env2 (.inl k) u := rfl
theorem putR_s (i : Nat) (u : D) (k : Str) (env2 : En) : putR i u (.str k) env2 = onDic i env2 (.inr k) u := rfl
def onDR (s : Option Slot) (i : Nat) (env : En) (k : Key) (d : D) : Option Out := match s with
  | some (.own (.dic l)) => if l.length < 16777216 then some (.nx (env.set i (.own (.dic (putD l k d))))) else none
  | _ => none
theorem onDic_e (i : Nat) (env : En) (k : Key) (d : D) : onDic i env k d = onDR (env[i]?) i env k d := by
  unfold onDic onDR
  rcases env[i]? with _ | _ | _ | z <;> first | rfl | (cases z <;> rfl)
theorem onDR_d (l : List (D × D)) (i : Nat) (env : En) (k : Key) (d : D) : onDR (some (.own (.dic l))) i env k d = if l.length < 16777216 then some (.nx (env.set i (.own (.dic (putD l k d))))) else none := rfl
theorem ins_e (i : Nat) (nm : List Nat) (ix f : Ev) (env : En) : cIns i nm ix f env = if isL i env then evxR (ix (mask nm env)) nm env (fun u env1 => evxR (f (mask nm env1)) nm env1 fun w env2 => insAt i u.d w env2) else none := by
  unfold cIns
  rw [evx_e]
  congr 1
theorem insAt_i (i : Nat) (k : Int) (w : Vn) (env : En) : insAt i (.int k) w env = onLst i env fun l => if 0 ≤ k ∧ k < 2 ^ 63 ∧ l.length < 16777216 then some (l.take k.toNat ++ [w.d] ++ l.drop k.toNat) else none := rfl
theorem popIx_e (i : Nat) (nm : List Nat) (ix : Ev) (env : En) : cPopIx i nm ix env = if isL i env then evxR (ix (mask nm env)) nm env (fun u env1 => popAt i u.d env1) else none := by
  unfold cPopIx
  rw [evx_e]
theorem popAt_i (i : Nat) (k : Int) (env : En) : popAt i (.int k) env = onLst i env fun l => if -(2 ^ 63) ≤ k ∧ k < 2 ^ 63 then (ixN l.length k).map fun j => l.eraseIdx j else none := rfl
theorem ltA_i (i j : Int) : ltA (.int i) (.int j) = some (.v (.bl (decide (i < j)))) := rfl
theorem iRng_e (fs : List Ev) (e : En) : iRng fs e = bindLI (evs fs e) rg3 := rfl
theorem sortR_e (f : Ev) (env : En) : cSortR f env = bindR (f env) sortR := rfl
theorem sortR_i (l : List Int) : sortR (.lst (l.map .int)) = some (.n (.lst ((sortI l).reverse.map .int))) := by
  show (D.ints (l.map .int)).map _ = _
  rw [ints_m]
  rfl
theorem sortA_i (l : List Int) : sortA [.lst (l.map .int)] = some (.n (.lst ((sortI l).map .int))) := by
  have h := ints_m l
  unfold sortA
  generalize l.map D.int = m at h
  dsimp only
  rw [h]

/-! ### branches join -/
section
variable {c : Prop} [Decidable c]
theorem j_snx (a b : En) : (if c then some (Out.nx a) else some (Out.nx b)) = some (Out.nx (if c then a else b)) := by split <;> rfl
theorem j_srt (a b : Vn) : (if c then some (Out.rt a) else some (Out.rt b)) = some (Out.rt (if c then a else b)) := by split <;> rfl
theorem j_sv (a b : D) : (if c then some (Rs.v a) else some (Rs.v b)) = some (Rs.v (if c then a else b)) := by split <;> rfl
theorem j_sn (a b : D) : (if c then some (Rs.n a) else some (Rs.n b)) = some (Rs.n (if c then a else b)) := by split <;> rfl
theorem j_sok (a b : Bool) : (if c then some (Rt.ok a) else some (Rt.ok b)) = some (Rt.ok (if c then a else b)) := by split <;> rfl
theorem j_slst (a b : List D) : (if c then some a else some b) = some (if c then a else b) := by split <;> rfl
theorem j_srok (a b : List D) (z : Bool) : (if c then some (Ri.ok a z) else some (Ri.ok b z)) = some (Ri.ok (if c then a else b) z) := by split <;> rfl
theorem j_sbool (a b : Bool) : (if c then some a else some b) = some (if c then a else b) := by split <;> rfl
theorem j_rv (a b : D) : (if c then Rs.v a else Rs.v b) = Rs.v (if c then a else b) := by split <;> rfl
theorem j_rn (a b : D) : (if c then Rs.n a else Rs.n b) = Rs.n (if c then a else b) := by split <;> rfl
theorem j_vv (a b : D) : (if c then Vn.v a else Vn.v b) = Vn.v (if c then a else b) := by split <;> rfl
theorem j_vn (a b : D) : (if c then Vn.n a else Vn.n b) = Vn.n (if c then a else b) := by split <;> rfl
theorem j_ok (a b : Bool) : (if c then Rt.ok a else Rt.ok b) = Rt.ok (if c then a else b) := by split <;> rfl
theorem j_nx (a b : En) : (if c then Out.nx a else Out.nx b) = Out.nx (if c then a else b) := by split <;> rfl
theorem j_rt (a b : Vn) : (if c then Out.rt a else Out.rt b) = Out.rt (if c then a else b) := by split <;> rfl
theorem j_sh (a b : D) : (if c then Slot.sh a else Slot.sh b) = Slot.sh (if c then a else b) := by split <;> rfl
theorem j_own (a b : D) : (if c then Slot.own a else Slot.own b) = Slot.own (if c then a else b) := by split <;> rfl
theorem j_int (a b : Int) : (if c then D.int a else D.int b) = D.int (if c then a else b) := by split <;> rfl
theorem j_bl (a b : Bool) : (if c then D.bl a else D.bl b) = D.bl (if c then a else b) := by split <;> rfl
theorem j_str (a b : Str) : (if c then D.str a else D.str b) = D.str (if c then a else b) := by split <;> rfl
theorem j_tup (a b : List D) : (if c then D.tup a else D.tup b) = D.tup (if c then a else b) := by split <;> rfl
theorem j_lst (a b : List D) : (if c then D.lst a else D.lst b) = D.lst (if c then a else b) := by split <;> rfl
theorem j_cons {α : Type} (a b : α) (l m : List α) : (if c then a :: l else b :: m) = (if c then a else b) :: (if c then l else m) := by split <;> rfl
theorem j_rok (a b : List D) (z : Bool) : (if c then Ri.ok a z else Ri.ok b z) = Ri.ok (if c then a else b) z := by split <;> rfl
end
theorem flat_int (i : Int) : D.flat (.int i) = true := by simp only [D.flat]
theorem flat_bl (b : Bool) : D.flat (.bl b) = true := by simp only [D.flat]
theorem flat_non : D.flat .non = true := by simp only [D.flat]
theorem flat_str (x : Str) : D.flat (.str x) = true := by simp only [D.flat]
theorem flat_tup (l : List D) : D.flat (.tup l) = D.flats l := by simp only [D.flat]
theorem flat_lst (l : List D) : D.flat (.lst l) = false := by simp only [D.flat]
theorem flat_scr (l : List D) : D.flat (.scr l) = false := by simp only [D.flat]
theorem flats_n : D.flats [] = true := by simp only [D.flats]
theorem flats_c (d : D) (l : List D) : D.flats (d :: l) = (d.flat && D.flats l) := by simp only [D.flats]
theorem flatN_l (l : List D) : D.flatN (.lst l) = D.flats l := rfl

/-! ### scripts, cells -/
structure Scr where
  ns : List Int
  len : ns.length ≤ 63
  bits : ∀ z ∈ ns, Builtin.Int.intBits z ≤ 1048576
abbrev Scr.d (s : Scr) : D := .scr (s.ns.map .int)
theorem bits_sz {z : Int} {n : Nat} (h : Builtin.Int.intBits z ≤ n) : SzC z n := ⟨by
  unfold Builtin.Int.intBits at h
  split at h
  · rename_i h0'
    have h0'' : z = 0 := eq_of_beq h0'
    have h0 : z.natAbs = 0 := by omega
    rw [h0]
    exact Nat.two_pow_pos n
  · rename_i h0'
    have h0 : z ≠ 0 := fun e => h0' (by rw [e]; rfl)
    exact (Nat.log2_lt (by omega)).1 (by omega)⟩
def Scr.raw (s : Scr) (k : Int) : Int := if 0 < s.ns.length then (s.ns[(k % s.ns.length).toNat]?).getD 0 else 0
instance Scr.raw_sz (s : Scr) (k : Int) : SzC (s.raw k) 1048576 := by
  unfold Scr.raw
  split
  · rcases h : s.ns[(k % s.ns.length).toNat]? with _ | z
    · exact SzC.mono (m := 1) ⟨by decide⟩ (by decide +kernel)
    · exact bits_sz (s.bits z (List.mem_of_getElem? h))
  · exact SzC.mono (m := 1) ⟨by decide⟩ (by decide +kernel)
def cell (s : Scr) (k : Int) : Int := s.raw k / 2147483647 * 2147483647 + ((s.raw k % 2147483647 + 7919 * k + 1) * 48271 % 2147483647 * 69621 + k) % 2147483647
instance cell_sz (s : Scr) (k : Int) : SzC (cell s k) 1048608 := by
  exact SzC.mono (x := s.raw k / 2147483647 * 2147483647 + ((s.raw k % 2147483647 + 7919 * k + 1) * 48271 % 2147483647 * 69621 + k) % 2147483647) inferInstance (by decide +kernel)
theorem keeps_of {φ : List D → Option Rs} (h : ∀ s : Scr, φ [s.d] = some (.v (.bl true))) : Keeps φ := fun ns h1 h2 => h ⟨ns, h1, h2⟩

/-! ### texts -/
def m1R (g : Str → D → Option Vn) (o : Option Rs) : D → Option Rs
  | .str a => bindR o fun e => (g a e).map Vn.r
  | _ => none
theorem m1_e (g : Str → D → Option Vn) (f k : Ev) (env : En) : cM1 g f k env = bindR (f env) fun d => m1R g (k env) d := by
  unfold cM1 m1R
  rfl
theorem m1R_s (g : Str → D → Option Vn) (o : Option Rs) (a : Str) : m1R g o (.str a) = bindR o fun e => (g a e).map Vn.r := rfl
def kR (tbl : List (Str × Int)) (g : Int → Vn) : D → Option Rs
  | .str z => (tbl.lookup z).map fun i => (g i).r
  | _ => none
theorem ixK_e (tbl : List (Str × Int)) (f : Ev) (env : En) : cIxK tbl f env = bindR (f env) fun d => kR tbl (fun i => .v (.int i)) d := by
  unfold cIxK
  congr 1
theorem notK_e (tbl : List (Str × Int)) (f : Ev) (env : En) : cNotK tbl f env = bindR (f env) fun d => kR tbl (fun _ => .v (.bl false)) d := by
  unfold cNotK
  congr 1
theorem kR_s (tbl : List (Str × Int)) (g : Int → Vn) (z : Str) : kR tbl g (.str z) = (tbl.lookup z).map fun i => (g i).r := rfl
/-- a text of at most n signs -/
class TLn (z : Str) (n : outParam Nat) : Prop where
  le : z.length ≤ n
theorem str_ok {i : Int} {n : Nat} [h : SzC i n] (hn : n ≤ 1900) : strC [.int i] = some (.v (.str (toString i))) := by
  show (if i.natAbs.log2 < 1920 then some (Vn.v (.str (toString i))) else none) = _
  rw [if_pos]
  have := h.lt
  by_cases h0 : i.natAbs = 0
  · rw [h0]; decide
  · have := (Nat.log2_lt h0).2 h.lt
    omega
instance tl_int {i : Int} {n : Nat} [h : SzC i n] : TLn (Str.ofString (toString i)) (n + 2) := ⟨by
  rw [ofString_length]
  refine int_text_length_le (k := n + 1) (by omega) ?_
  have := h.lt
  by_cases h0 : i.natAbs = 0
  · rw [h0]; exact Nat.succ_pos _
  · have := (Nat.log2_lt h0).2 h.lt
    omega⟩
instance tl_app {x y : Str} {m n : Nat} [h1 : TLn x m] [h2 : TLn y n] : TLn (x ++ y) (m + n) := ⟨by
  have e : (x ++ y).length = x.length + y.length := by rw [TL.len_tl, TL.tl_append, List.length_append, ← TL.len_tl, ← TL.len_tl]
  have := h1.le
  have := h2.le
  omega⟩
theorem addD_s {x y : Str} {m n : Nat} [h1 : TLn x m] [h2 : TLn y n] (h : m + n ≤ 16777216) : addD (.str x) (.str y) = some (.v (.str (x ++ y))) := by
  show (if x.length + y.length ≤ sizeLine then some (Vn.v (.str (x ++ y))) else none) = _
  have := h1.le
  have := h2.le
  have e : sizeLine = 16777216 := by decide
  rw [if_pos (by omega)]
theorem join4 {s a b c d : Str} {k n1 n2 n3 n4 : Nat} [h : TLn s k] [h1 : TLn a n1] [h2 : TLn b n2] [h3 : TLn c n3] [h4 : TLn d n4] (hz : n1 + n2 + n3 + n4 + 4 * k ≤ 16777216) :
    joinD s (.lst [.str a, .str b, .str c, .str d]) = some (.v (.str (Txt.join s [a, b, c, d]))) := by
  show (if ([a, b, c, d].map (·.length)).sum + [a, b, c, d].length * s.length ≤ 16777216 then some (Vn.v (.str (Txt.join s [a, b, c, d]))) else none) = _
  have := h.le
  have := h1.le
  have := h2.le
  have := h3.le
  have := h4.le
  rw [if_pos]
  simp only [List.map_cons, List.map_nil, List.sum_cons, List.sum_nil, List.length_cons, List.length_nil]
  omega

/-- a text of Unicode's signs -/
class SOk (x : Str) : Prop where
  ok : ∀ c ∈ x.cps.toList, c < 1114112
theorem SOk.py {x : Str} (h : SOk x) : PyData.strOk x = true := by
  unfold PyData.strOk
  rw [← Array.all_toList, List.all_eq_true]
  exact fun c hc => decide_eq_true (h.ok c hc)
instance sok_str (s : String) : SOk (Str.ofString s) := ⟨fun c hc => by
  rw [PyProof.Rows.signs_ofString, List.mem_map] at hc
  obtain ⟨ch, _, rfl⟩ := hc
  rcases ch.valid with h | h
  · have : ch.toNat < 55296 := h
    omega
  · have : ch.toNat < 1114112 := h.2
    exact this⟩
instance sok_app {x y : Str} [h1 : SOk x] [h2 : SOk y] : SOk (x ++ y) := ⟨fun c hc => by
  have hc : c ∈ TL.tl (x ++ y) := hc
  rw [TL.tl_append] at hc
  rcases List.mem_append.1 hc with h | h
  · exact h1.ok c h
  · exact h2.ok c h⟩
theorem joinL_mem {sep : List Nat} {c : Nat} : ∀ {l : List (List Nat)}, c ∈ TL.joinL sep l → c ∈ sep ∨ ∃ p ∈ l, c ∈ p
  | [], h => absurd h (List.not_mem_nil)
  | [p], h => .inr ⟨p, List.mem_cons_self .., h⟩
  | p :: q :: r, h => by
    have h' : c ∈ p ++ (sep ++ TL.joinL sep (q :: r)) := h
    rcases List.mem_append.1 h' with h | h
    · exact .inr ⟨p, List.mem_cons_self .., h⟩
    · rcases List.mem_append.1 h with h | h
      · exact .inl h
      · rcases joinL_mem h with h | ⟨z, hz, h⟩
        · exact .inl h
        · exact .inr ⟨z, List.mem_cons_of_mem _ hz, h⟩
theorem sok_join {s : Str} {l : List Str} (hs : SOk s) (h : ∀ z ∈ l, SOk z) : SOk (Txt.join s l) := ⟨fun c hc => by
  have hc : c ∈ TL.tl (Txt.join s l) := hc
  rw [TL.join_eq, TL.tl_join] at hc
  rcases joinL_mem hc with h1 | ⟨p, hp, h1⟩
  · exact hs.ok c h1
  · obtain ⟨z, hz, rfl⟩ := List.mem_map.1 hp
    exact (h z hz).ok c h1⟩
theorem neD_str {a : Str} [h : SOk a] : neD (.str a) (.str a) = some (.v (.bl false)) := by
  unfold neD
  have e : D.sh 60 (.str a) = true := h.py
  have e2 : D.eqv (.str a) (.str a) = true := by
    unfold D.eqv
    simp
  rw [e, e2]
  rfl
theorem eqD_str {a : Str} [h : SOk a] : eqD (.str a) (.str a) = some (.v (.bl true)) := by
  unfold eqD
  have e : D.sh 60 (.str a) = true := h.py
  have e2 : D.eqv (.str a) (.str a) = true := by
    unfold D.eqv
    simp
  rw [e, e2]
  rfl

/-! ### sides -/
def sideD (r : Bool) : D := if r then .str "right" else .str "left"
theorem mkL : D.str "left" = sideD false := rfl
theorem mkR : D.str "right" = sideD true := rfl
theorem j_side {c : Prop} [Decidable c] (a b : Bool) : (if c then sideD a else sideD b) = sideD (if c then a else b) := by split <;> rfl
theorem eq_side (a b : Bool) : eqD (sideD a) (sideD b) = some (.v (.bl (a == b))) := by cases a <;> cases b <;> kernel_rfl
theorem ne_side (a b : Bool) : neD (sideD a) (sideD b) = some (.v (.bl (!(a == b)))) := by cases a <;> cases b <;> kernel_rfl
theorem ni_side (a : Bool) : notInD (sideD a) (.tup [sideD false, sideD true]) = some (.v (.bl false)) := by cases a <;> kernel_rfl
theorem in_side (a : Bool) : inD (sideD a) (.tup [sideD false, sideD true]) = some (.v (.bl true)) := by cases a <;> kernel_rfl
theorem flat_side (a : Bool) : D.flat (sideD a) = true := by cases a <;> kernel_rfl
theorem beq_tt (a : Bool) : (a == true) = a := by cases a <;> rfl

/-! ### four numbers -/
/-- four parts -/
structure Q where
  a : Int
  b : Int
  c : Int
  d : Int
deriving DecidableEq
def Q.dt (q : Q) : D := .tup [.int q.a, .int q.b, .int q.c, .int q.d]
theorem mk_dt (a b c d : Int) : D.tup [.int a, .int b, .int c, .int d] = Q.dt ⟨a, b, c, d⟩ := rfl
theorem flat_dt (q : Q) : D.flat q.dt = true := by simp only [Q.dt, D.flat, D.flats, Bool.and_self]
theorem sh_dt (n : Nat) (q : Q) : D.sh (n + 1) q.dt = true := by simp only [Q.dt, sh_tup, shs_cons, shs_nil, sh_int, Bool.and_self]
theorem Q.ext' {p q : Q} (h1 : p.a = q.a) (h2 : p.b = q.b) (h3 : p.c = q.c) (h4 : p.d = q.d) : p = q := by
  cases p
  cases q
  simp only at h1 h2 h3 h4
  rw [h1, h2, h3, h4]
theorem eqv_dt (p q : Q) : D.eqv p.dt q.dt = decide (p = q) := by
  simp only [Q.dt, eqv_tup, eqvs_cons, eqvs_nil, eqv_int, Bool.and_true]
  by_cases h : p = q
  · subst h
    simp only [decide_true, Bool.and_self]
  · rw [decide_eq_false h]
    by_cases h1 : p.a = q.a
    · by_cases h2 : p.b = q.b
      · by_cases h3 : p.c = q.c
        · by_cases h4 : p.d = q.d
          · exact absurd (Q.ext' h1 h2 h3 h4) h
          · simp only [h4, decide_false, Bool.and_false]
        · simp only [h3, decide_false, Bool.and_false, Bool.false_and]
      · simp only [h2, decide_false, Bool.and_false, Bool.false_and]
    · simp only [h1, decide_false, Bool.and_false, Bool.false_and]
theorem eqD_dt (p q : Q) : eqD p.dt q.dt = some (.v (.bl (decide (p = q)))) := by
  unfold eqD
  rw [sh_dt, sh_dt, eqv_dt]
  rfl
theorem neD_dt (p q : Q) : neD p.dt q.dt = some (.v (.bl (!decide (p = q)))) := by
  unfold neD
  rw [sh_dt, sh_dt, eqv_dt]
  rfl
theorem eqvs_dt : ∀ l m : List Q, D.eqvs (l.map Q.dt) (m.map Q.dt) = decide (l = m)
  | [], [] => by rw [List.map_nil, eqvs_nil, decide_eq_true rfl]
  | [], y :: m => by rw [List.map_nil, List.map_cons, eqvs_nc, decide_eq_false (by simp)]
  | x :: l, [] => by rw [List.map_nil, List.map_cons, eqvs_cn, decide_eq_false (by simp)]
  | x :: l, y :: m => by
    rw [List.map_cons, List.map_cons, eqvs_cons, eqv_dt, eqvs_dt l m, Bool.eq_iff_iff, Bool.and_eq_true, decide_eq_true_eq, decide_eq_true_eq, decide_eq_true_eq, List.cons.injEq]
theorem shs_dt (n : Nat) (l : List Q) : D.shs (n + 1) (l.map Q.dt) = true := shs_map _ _ l fun q _ => sh_dt n q
theorem flats_dt : ∀ l : List Q, D.flats (l.map Q.dt) = true
  | [] => flats_n
  | x :: l => by rw [List.map_cons, flats_c, flat_dt, flats_dt l]; rfl
theorem flats_ints : ∀ l : List Int, D.flats (l.map .int) = true
  | [] => flats_n
  | x :: l => by rw [List.map_cons, flats_c, flat_int, flats_ints l]; rfl
theorem shs_ints (n : Nat) (l : List Int) : D.shs n (l.map .int) = true := shs_map _ _ l fun q _ => sh_int n q
theorem eqvs_ints : ∀ l m : List Int, D.eqvs (l.map .int) (m.map .int) = decide (l = m)
  | [], [] => by rw [List.map_nil, eqvs_nil, decide_eq_true rfl]
  | [], y :: m => by rw [List.map_nil, List.map_cons, eqvs_nc, decide_eq_false (by simp)]
  | x :: l, [] => by rw [List.map_nil, List.map_cons, eqvs_cn, decide_eq_false (by simp)]
  | x :: l, y :: m => by
    rw [List.map_cons, List.map_cons, eqvs_cons, eqv_int, eqvs_ints l m, Bool.eq_iff_iff, Bool.and_eq_true, decide_eq_true_eq, decide_eq_true_eq, decide_eq_true_eq, List.cons.injEq]
theorem tru_dt (q : Q) : truD q.dt = some true := rfl
theorem j_dt {c : Prop} [Decidable c] (p q : Q) : (if c then p.dt else q.dt) = Q.dt (if c then p else q) := by split <;> rfl
theorem dtE {p q : Q} (h1 : p.a = q.a) (h2 : p.b = q.b) (h3 : p.c = q.c) (h4 : p.d = q.d) : some (Rs.v p.dt) = some (Rs.v q.dt) := by rw [Q.ext' h1 h2 h3 h4]
theorem isNot_dt (q : Q) : isNotD q.dt .non = some (.v (.bl true)) := rfl
theorem isNot_nn : isNotD .non .non = some (.v (.bl false)) := rfl
theorem is_dt (q : Q) : isD q.dt .non = some (.v (.bl false)) := rfl
theorem is_nn : isD .non .non = some (.v (.bl true)) := rfl
theorem isNot_i (i : Int) : isNotD (.int i) .non = some (.v (.bl true)) := rfl
theorem is_i (i : Int) : isD (.int i) .non = some (.v (.bl false)) := rfl
theorem isNot_t (l : List D) : isNotD (.tup l) .non = some (.v (.bl true)) := rfl
theorem is_t (l : List D) : isD (.tup l) .non = some (.v (.bl false)) := rfl
theorem isNot_l (l : List D) : isNotD (.lst l) .non = some (.v (.bl true)) := rfl
theorem is_l (l : List D) : isD (.lst l) .non = some (.v (.bl false)) := rfl
theorem tupE {a b c d a' b' c' d' : Int} (h1 : a = a') (h2 : b = b') (h3 : c = c') (h4 : d = d') : some (Rs.v (D.tup [.int a, .int b, .int c, .int d])) = some (Rs.v (D.tup [.int a', .int b', .int c', .int d'])) := by rw [h1, h2, h3, h4]
theorem seqD_dt (q : Q) : seqD q.dt = some (.ok [.int q.a, .int q.b, .int q.c, .int q.d] true) := rfl
theorem len_dt (q : Q) : lenC [q.dt] = some (.v (.int 4)) := rfl
theorem isTup_dt (q : Q) : isTupD q.dt = some true := rfl
theorem ix_dt (q : Q) (i : Int) : ixD q.dt (.int i) = (atI [D.int q.a, .int q.b, .int q.c, .int q.d] i).map .v := rfl
theorem en2_dt (q : Q) : en2 [q.dt] = some (.ok [.tup [.int 0, .int q.a], .tup [.int 1, .int q.b], .tup [.int 2, .int q.c], .tup [.int 3, .int q.d]] true) := rfl
theorem zp2_dt (p q : Q) : zp2 [p.dt, q.dt] = some (.ok [.tup [.int p.a, .int q.a], .tup [.int p.b, .int q.b], .tup [.int p.c, .int q.c], .tup [.int p.d, .int q.d]] true) := rfl
theorem sqD_dt (q : Q) : sqD q.dt = some [.int q.a, .int q.b, .int q.c, .int q.d] := rfl
theorem tuple_dt (q : Q) : tupleC [q.dt] = some (.v q.dt) := rfl
theorem list_dt (q : Q) : listC [q.dt] = some (.n (.lst [.int q.a, .int q.b, .int q.c, .int q.d])) := rfl
theorem tgDt (is : List Nat) (q : Q) (env : En) : (Tg.tu is).set q.dt env = setAll is [.int q.a, .int q.b, .int q.c, .int q.d] env := rfl
class QC (q : Q) (n : outParam Nat) : Prop where
  a : SzC q.a n
  b : SzC q.b n
  c : SzC q.c n
  d : SzC q.d n
theorem QC.mono {q : Q} {m : Nat} (h : QC q m) {n : Nat} (l : m ≤ n) : QC q n := ⟨h.a.mono l, h.b.mono l, h.c.mono l, h.d.mono l⟩
instance qc_a {q : Q} {n : Nat} [h : QC q n] : SzC q.a n := h.a
instance qc_b {q : Q} {n : Nat} [h : QC q n] : SzC q.b n := h.b
instance qc_c {q : Q} {n : Nat} [h : QC q n] : SzC q.c n := h.c
instance qc_d {q : Q} {n : Nat} [h : QC q n] : SzC q.d n := h.d
instance qc_mk {a b c d : Int} {k l m n : Nat} [h1 : SzC a k] [h2 : SzC b l] [h3 : SzC c m] [h4 : SzC d n] : QC ⟨a, b, c, d⟩ (max (max k l) (max m n)) :=
  ⟨h1.mono (by omega), h2.mono (by omega), h3.mono (by omega), h4.mono (by omega)⟩
instance qc_ite {c : Prop} [Decidable c] {p q : Q} {m n : Nat} [h1 : QC p m] [h2 : QC q n] : QC (if c then p else q) (max m n) := by
  split
  · exact h1.mono (by omega)
  · exact h2.mono (by omega)
/-- all multiplied out -/
def Q.mul (p q : Q) : Q := ⟨p.a * q.a - p.b * q.b - p.c * q.c - p.d * q.d, p.a * q.b + p.b * q.a + p.c * q.d - p.d * q.c, p.a * q.c - p.b * q.d + p.c * q.a + p.d * q.b, p.a * q.d + p.b * q.c - p.c * q.b + p.d * q.a⟩
def Q.half (p : Q) : Q := ⟨p.a / 2, p.b / 2, p.c / 2, p.d / 2⟩
def Q.add (p q : Q) : Q := ⟨p.a + q.a, p.b + q.b, p.c + q.c, p.d + q.d⟩
def Q.sub (p q : Q) : Q := ⟨p.a - q.a, p.b - q.b, p.c - q.c, p.d - q.d⟩
def Q.bar (p : Q) : Q := ⟨p.a, -p.b, -p.c, -p.d⟩
def Q.sq (p : Q) : Int := p.a * p.a + p.b * p.b + p.c * p.c + p.d * p.d
instance qc_mul {p q : Q} {m n : Nat} [h1 : QC p m] [h2 : QC q n] : QC (p.mul q) (m + n + 3) := by
  unfold Q.mul
  exact ⟨SzC.mono inferInstance (by omega), SzC.mono inferInstance (by omega), SzC.mono inferInstance (by omega), SzC.mono inferInstance (by omega)⟩
instance qc_half {p : Q} {m : Nat} [h1 : QC p m] : QC p.half m := ⟨inferInstanceAs (SzC (p.a / 2) m), inferInstanceAs (SzC (p.b / 2) m), inferInstanceAs (SzC (p.c / 2) m), inferInstanceAs (SzC (p.d / 2) m)⟩
instance qc_bar {p : Q} {m : Nat} [h1 : QC p m] : QC p.bar m := ⟨inferInstanceAs (SzC p.a m), inferInstanceAs (SzC (-p.b) m), inferInstanceAs (SzC (-p.c) m), inferInstanceAs (SzC (-p.d) m)⟩
instance qc_add {p q : Q} {m n : Nat} [h1 : QC p m] [h2 : QC q n] : QC (p.add q) (max m n + 1) :=
  ⟨inferInstanceAs (SzC (p.a + q.a) _), inferInstanceAs (SzC (p.b + q.b) _), inferInstanceAs (SzC (p.c + q.c) _), inferInstanceAs (SzC (p.d + q.d) _)⟩
instance qc_sub {p q : Q} {m n : Nat} [h1 : QC p m] [h2 : QC q n] : QC (p.sub q) (max m n + 1) :=
  ⟨inferInstanceAs (SzC (p.a - q.a) _), inferInstanceAs (SzC (p.b - q.b) _), inferInstanceAs (SzC (p.c - q.c) _), inferInstanceAs (SzC (p.d - q.d) _)⟩
instance sz_sq {p : Q} {m : Nat} [h1 : QC p m] : SzC p.sq (m + m + 3) := by
  unfold Q.sq
  exact SzC.mono inferInstance (by omega)
theorem Q.mul_sq (p q : Q) : (p.mul q).sq = p.sq * q.sq := by
  simp only [Q.mul, Q.sq]
  grind
theorem Q.mul_assoc (p q r : Q) : (p.mul q).mul r = p.mul (q.mul r) := by
  apply Q.ext' <;> simp only [Q.mul] <;> grind
end HD

set_option Elab.async false
set_option linter.all false
set_option maxRecDepth 100000
/-! Qt: fours (parts all even or all odd), halves of products, sizes -/
namespace HD
open PySem L2
def Q.Four (q : Q) : Prop := q.a % 2 = q.b % 2 ∧ q.a % 2 = q.c % 2 ∧ q.a % 2 = q.d % 2
instance (q : Q) : Decidable q.Four := inferInstanceAs (Decidable (_ ∧ _ ∧ _))
def Q.dbl (q : Q) : Q := ⟨2 * q.a, 2 * q.b, 2 * q.c, 2 * q.d⟩
def Q.hm (p q : Q) : Q := (p.mul q).half
def Q.size (q : Q) : Int := q.sq / 4
theorem Q.Four.ex {q : Q} (h : q.Four) : ∃ e x y z t : Int, q = ⟨2 * x + e, 2 * y + e, 2 * z + e, 2 * t + e⟩ := by
  obtain ⟨h1, h2, h3⟩ := h
  exact ⟨q.a % 2, q.a / 2, q.b / 2, q.c / 2, q.d / 2, by apply Q.ext' <;> simp only <;> omega⟩
theorem Q.four_of (e x y z t : Int) : Q.Four ⟨2 * x + e, 2 * y + e, 2 * z + e, 2 * t + e⟩ := by
  unfold Q.Four
  simp only
  omega
theorem Q.half_dbl (q : Q) : q.dbl.half = q := by
  apply Q.ext' <;> simp only [Q.half, Q.dbl] <;> omega
theorem Q.dbl_inj {p q : Q} (h : p.dbl = q.dbl) : p = q := by rw [← p.half_dbl, h, q.half_dbl]
theorem Q.dbl_mul (p q : Q) : p.dbl.mul q = (p.mul q).dbl := by
  apply Q.ext' <;> simp only [Q.mul, Q.dbl] <;> grind
theorem Q.mul_dbl (p q : Q) : p.mul q.dbl = (p.mul q).dbl := by
  apply Q.ext' <;> simp only [Q.mul, Q.dbl] <;> grind
theorem Q.sq_dbl (p : Q) : p.dbl.sq = 4 * p.sq := by
  simp only [Q.sq, Q.dbl]
  grind
theorem Q.hm_ex {p q : Q} (hp : p.Four) (hq : q.Four) : (p.hm q).Four ∧ p.mul q = (p.hm q).dbl := by
  obtain ⟨e, x1, x2, x3, x4, rfl⟩ := hp.ex
  obtain ⟨f, y1, y2, y3, y4, rfl⟩ := hq.ex
  have key : ∃ g z1 z2 z3 z4 : Int, Q.mul ⟨2 * x1 + e, 2 * x2 + e, 2 * x3 + e, 2 * x4 + e⟩ ⟨2 * y1 + f, 2 * y2 + f, 2 * y3 + f, 2 * y4 + f⟩ = Q.dbl ⟨2 * z1 + g, 2 * z2 + g, 2 * z3 + g, 2 * z4 + g⟩ := by
    refine ⟨e * (y1 + y2 + y3 + y4) + f * (x1 + x2 + x3 + x4) + e * f,
      x1 * y1 - x2 * y2 - x3 * y3 - x4 * y4 - e * (y2 + y3 + y4) - f * (x2 + x3 + x4) - e * f,
      x1 * y2 + x2 * y1 + x3 * y4 - x4 * y3 - e * y3 - f * x4, x1 * y3 - x2 * y4 + x3 * y1 + x4 * y2 - e * y4 - f * x2, x1 * y4 + x2 * y3 - x3 * y2 + x4 * y1 - e * y2 - f * x3, ?_⟩
    apply Q.ext' <;> simp only [Q.mul, Q.dbl] <;> grind
  obtain ⟨g, z1, z2, z3, z4, hk⟩ := key
  unfold Q.hm
  rw [hk, Q.half_dbl]
  exact ⟨Q.four_of _ _ _ _ _, rfl⟩
theorem Q.Four.hm {p q : Q} (hp : p.Four) (hq : q.Four) : (p.hm q).Four := (Q.hm_ex hp hq).1
theorem Q.hm2 {p q : Q} (hp : p.Four) (hq : q.Four) : (p.hm q).dbl = p.mul q := (Q.hm_ex hp hq).2.symm
theorem Q.hm_assoc {p q r : Q} (hp : p.Four) (hq : q.Four) (hr : r.Four) : (p.hm q).hm r = p.hm (q.hm r) := by
  apply Q.dbl_inj
  apply Q.dbl_inj
  rw [Q.hm2 (hp.hm hq) hr, Q.hm2 hp (hq.hm hr), ← Q.dbl_mul, ← Q.mul_dbl, Q.hm2 hp hq, Q.hm2 hq hr, Q.mul_assoc]
theorem Q.size4 {q : Q} (h : q.Four) : q.sq = 4 * q.size := by
  obtain ⟨e, x1, x2, x3, x4, rfl⟩ := h.ex
  have : Q.sq ⟨2 * x1 + e, 2 * x2 + e, 2 * x3 + e, 2 * x4 + e⟩ = 4 * (x1 * x1 + x2 * x2 + x3 * x3 + x4 * x4 + e * (x1 + x2 + x3 + x4) + e * e) := by
    simp only [Q.sq]
    grind
  unfold Q.size
  rw [this]
  omega
theorem Q.size_hm {p q : Q} (hp : p.Four) (hq : q.Four) : (p.hm q).size = p.size * q.size := by
  have h1 := Q.size4 (hp.hm hq)
  have h2 := Q.sq_dbl (p.hm q)
  rw [Q.hm2 hp hq, Q.mul_sq, Q.size4 hp, Q.size4 hq, h1] at h2
  have h3 : 16 * (p.hm q).size = 16 * (p.size * q.size) := by grind
  omega
theorem Q.Four.bar {q : Q} (h : q.Four) : q.bar.Four := by
  unfold Q.Four at *
  simp only [Q.bar]
  omega
theorem Q.bar_bar (q : Q) : q.bar.bar = q := by
  apply Q.ext' <;> simp only [Q.bar] <;> omega
theorem Q.sq_bar (q : Q) : q.bar.sq = q.sq := by
  simp only [Q.bar, Q.sq]
  grind
theorem Q.size_bar (q : Q) : q.bar.size = q.size := by
  unfold Q.size
  rw [Q.sq_bar]
theorem Q.bar_mul (p q : Q) : (p.mul q).bar = q.bar.mul p.bar := by
  apply Q.ext' <;> simp only [Q.mul, Q.bar] <;> grind
theorem Q.bar_dbl (p : Q) : p.dbl.bar = p.bar.dbl := by
  apply Q.ext' <;> simp only [Q.bar, Q.dbl] <;> omega
theorem Q.bar_hm {p q : Q} (hp : p.Four) (hq : q.Four) : (p.hm q).bar = q.bar.hm p.bar := by
  apply Q.dbl_inj
  rw [← Q.bar_dbl, Q.hm2 hp hq, Q.hm2 hq.bar hp.bar, Q.bar_mul]
theorem Q.mul_bar (p : Q) : p.mul p.bar = ⟨p.sq, 0, 0, 0⟩ := by
  apply Q.ext' <;> simp only [Q.mul, Q.bar, Q.sq] <;> grind
theorem Q.bar_mul' (p : Q) : p.bar.mul p = ⟨p.sq, 0, 0, 0⟩ := by
  apply Q.ext' <;> simp only [Q.mul, Q.bar, Q.sq] <;> grind
theorem Q.hm_bar {p : Q} (hp : p.Four) : p.hm p.bar = ⟨2 * p.size, 0, 0, 0⟩ := by
  unfold Q.hm
  rw [Q.mul_bar, Q.size4 hp]
  apply Q.ext' <;> simp only [Q.half] <;> omega
theorem Q.bar_hm' {p : Q} (hp : p.Four) : p.bar.hm p = ⟨2 * p.size, 0, 0, 0⟩ := by
  unfold Q.hm
  rw [Q.bar_mul', Q.size4 hp]
  apply Q.ext' <;> simp only [Q.half] <;> omega
theorem sq_nn (x : Int) : 0 ≤ x * x := by
  rcases Int.le_total 0 x with h | h
  · exact Int.mul_nonneg h h
  · exact Int.mul_nonneg_of_nonpos_of_nonpos h h
theorem sq_0 {x : Int} (h : x * x ≤ 0) : x = 0 := by
  have := sq_nn x
  rcases Int.mul_eq_zero.1 (show x * x = 0 by omega) with h | h <;> exact h
theorem Q.sq_nonneg (q : Q) : 0 ≤ q.sq := by
  have h1 := sq_nn q.a
  have h2 := sq_nn q.b
  have h3 := sq_nn q.c
  have h4 := sq_nn q.d
  unfold Q.sq
  omega
theorem Q.sq_zero {q : Q} (h : q.sq ≤ 0) : q = ⟨0, 0, 0, 0⟩ := by
  have h1 := sq_nn q.a
  have h2 := sq_nn q.b
  have h3 := sq_nn q.c
  have h4 := sq_nn q.d
  unfold Q.sq at h
  exact Q.ext' (sq_0 (by omega)) (sq_0 (by omega)) (sq_0 (by omega)) (sq_0 (by omega))
theorem Q.size_nonneg (q : Q) : 0 ≤ q.size := by
  have := q.sq_nonneg
  unfold Q.size
  omega
theorem Q.size_zero {q : Q} (h : q.Four) : q.size = 0 ↔ q = ⟨0, 0, 0, 0⟩ := by
  constructor
  · intro h0
    apply Q.sq_zero
    rw [Q.size4 h, h0]
    decide
  · rintro rfl
    decide
theorem Q.size_pos {q : Q} (h : q.Four) (h0 : q ≠ ⟨0, 0, 0, 0⟩) : 0 < q.size := by
  have h1 := q.size_nonneg
  have h2 : q.size ≠ 0 := fun e => h0 ((Q.size_zero h).1 e)
  omega
instance qc_hm {p q : Q} {m n : Nat} [h1 : QC p m] [h2 : QC q n] : QC (p.hm q) (m + n + 3) := inferInstanceAs (QC (p.mul q).half _)
instance sz_size {p : Q} {m : Nat} [h1 : QC p m] : SzC p.size (m + m + 3) := inferInstanceAs (SzC (p.sq / 4) _)

/-! ### products of many -/
theorem Q.one_four : Q.Four ⟨2, 0, 0, 0⟩ := by decide
theorem Q.one_hm (q : Q) : Q.hm ⟨2, 0, 0, 0⟩ q = q := by
  have : Q.mul ⟨2, 0, 0, 0⟩ q = q.dbl := by apply Q.ext' <;> simp only [Q.mul, Q.dbl] <;> grind
  unfold Q.hm
  rw [this, Q.half_dbl]
theorem Q.hm_one (q : Q) : q.hm ⟨2, 0, 0, 0⟩ = q := by
  have : q.mul ⟨2, 0, 0, 0⟩ = q.dbl := by apply Q.ext' <;> simp only [Q.mul, Q.dbl] <;> grind
  unfold Q.hm
  rw [this, Q.half_dbl]
def prodQ (l : List Q) : Q := l.foldl Q.hm ⟨2, 0, 0, 0⟩
theorem fold_four : ∀ (l : List Q) (z : Q), z.Four → (∀ q ∈ l, q.Four) → (l.foldl Q.hm z).Four
  | [], _, h, _ => h
  | x :: l, z, h, H => fold_four l (z.hm x) (h.hm (H x (List.mem_cons_self ..))) fun q hq => H q (List.mem_cons_of_mem _ hq)
theorem prodQ_four {l : List Q} (H : ∀ q ∈ l, q.Four) : (prodQ l).Four := fold_four l _ Q.one_four H
theorem fold_hm : ∀ (l : List Q) (z : Q), z.Four → (∀ q ∈ l, q.Four) → l.foldl Q.hm z = z.hm (prodQ l)
  | [], z, _, _ => (Q.hm_one z).symm
  | x :: l, z, h, H => by
    have hx := H x (List.mem_cons_self ..)
    have hl : ∀ q ∈ l, q.Four := fun q hq => H q (List.mem_cons_of_mem _ hq)
    have e : prodQ (x :: l) = x.hm (prodQ l) := by
      show l.foldl Q.hm (Q.hm ⟨2, 0, 0, 0⟩ x) = _
      rw [Q.one_hm, fold_hm l x hx hl]
    rw [List.foldl_cons, fold_hm l (z.hm x) (h.hm hx) hl, e, Q.hm_assoc h hx (prodQ_four hl)]
theorem prodQ_append {l m : List Q} (hl : ∀ q ∈ l, q.Four) (hm : ∀ q ∈ m, q.Four) : prodQ (l ++ m) = (prodQ l).hm (prodQ m) := by
  unfold prodQ
  rw [List.foldl_append]
  exact fold_hm m _ (prodQ_four hl) hm
theorem prodQ_one (q : Q) : prodQ [q] = q := Q.one_hm q
theorem prodQ_snoc (l : List Q) (x : Q) : prodQ (l ++ [x]) = (prodQ l).hm x := by
  unfold prodQ
  rw [List.foldl_append]
  rfl
theorem prodQ_cons {l : List Q} {x : Q} (hx : x.Four) (hl : ∀ q ∈ l, q.Four) : prodQ (x :: l) = x.hm (prodQ l) := by
  show l.foldl Q.hm (Q.hm ⟨2, 0, 0, 0⟩ x) = _
  rw [Q.one_hm, fold_hm l x hx hl]
def sizesQ (l : List Q) : Int := l.foldl (fun z q => z * q.size) 1
theorem sizesQ_snoc (l : List Q) (x : Q) : sizesQ (l ++ [x]) = sizesQ l * x.size := by
  unfold sizesQ
  rw [List.foldl_append]
  rfl
theorem prodQ_size {l : List Q} (H : ∀ q ∈ l, q.Four) : (prodQ l).size = sizesQ l := by
  suffices h : ∀ (l : List Q) (z : Q), z.Four → (∀ q ∈ l, q.Four) → (l.foldl Q.hm z).size = l.foldl (fun z q => z * q.size) z.size from h l ⟨2, 0, 0, 0⟩ Q.one_four H
  intro l
  induction l with
  | nil => intro z _ _; rfl
  | cons x l ih =>
    intro z hz H
    have hx := H x (List.mem_cons_self ..)
    rw [List.foldl_cons, List.foldl_cons, ih (z.hm x) (hz.hm hx) (fun q h => H q (List.mem_cons_of_mem _ h)), Q.size_hm hz hx]
theorem fold_sz (b : Nat) : ∀ (l : List Q) (z : Q) (n : Nat), (∀ q ∈ l, QC q b) → QC z n → QC (l.foldl Q.hm z) (n + l.length * (b + 3))
  | [], z, n, _, h => h.mono (by omega)
  | x :: l, z, n, hq, hz => by
    haveI := hz
    haveI := hq x (List.mem_cons_self ..)
    have := fold_sz b l (z.hm x) (n + b + 3) (fun q h => hq q (List.mem_cons_of_mem _ h)) inferInstance
    refine this.mono ?_
    rw [List.length_cons, Nat.succ_mul]
    omega
theorem prodQ_sz {b : Nat} {l : List Q} (hq : ∀ q ∈ l, QC q b) : QC (prodQ l) (2 + l.length * (b + 3)) := fold_sz b l _ 2 hq ⟨⟨by decide⟩, ⟨by decide⟩, ⟨by decide⟩, ⟨by decide⟩⟩
theorem sizesQ_sz {b : Nat} {l : List Q} (hq : ∀ q ∈ l, QC q b) : SzC (sizesQ l) (1 + l.length * (b + b + 3)) := by
  unfold sizesQ
  suffices h : ∀ (l : List Q) (z : Int) (n : Nat), (∀ q ∈ l, QC q b) → SzC z n → SzC (l.foldl (fun z q => z * q.size) z) (n + l.length * (b + b + 3)) from h l 1 1 hq ⟨by decide⟩
  intro l
  induction l with
  | nil => intro z n _ h; exact h.mono (by omega)
  | cons x l ih =>
    intro z n hq hz
    haveI := hz
    haveI := hq x (List.mem_cons_self ..)
    have := ih (z * x.size) (n + (b + b + 3)) (fun q h => hq q (List.mem_cons_of_mem _ h)) inferInstance
    refine this.mono ?_
    rw [List.length_cons, Nat.succ_mul]
    omega
theorem mem_pre {α : Type} {l d r : List α} {x : α} (he : [] ++ l = d ++ x :: r) : (∀ q ∈ d, q ∈ l) ∧ x ∈ l ∧ d.length + 1 ≤ l.length := by
  rw [List.nil_append] at he
  subst he
  refine ⟨fun q h => List.mem_append_left _ h, by simp, ?_⟩
  rw [List.length_append, List.length_cons]
  omega
end HD

set_option Elab.async false
set_option linter.all false
set_option maxRecDepth 100000
/-! Dv: a product on a side, division with a rest, multiples -/
namespace HD
open PySem L2
/-- beside: p times q on the side r (r: right) -/
def bes (r : Bool) (p q : Q) : Q := if r then p.hm q else q.hm p
instance bes_qc {r : Bool} {p q : Q} {m n : Nat} [h1 : QC p m] [h2 : QC q n] : QC (bes r p q) (m + n + 3) := by
  cases r
  · exact (inferInstance : QC (q.hm p) (n + m + 3)).mono (by omega)
  · exact (inferInstance : QC (p.hm q) (m + n + 3))
theorem bes_four {r : Bool} {p q : Q} (hp : p.Four) (hq : q.Four) : (bes r p q).Four := by
  cases r
  · exact hq.hm hp
  · exact hp.hm hq
theorem bes_assoc {r : Bool} {p q t : Q} (hp : p.Four) (hq : q.Four) (ht : t.Four) : bes r (bes r p q) t = bes r p (bes r q t) := by
  cases r
  · exact (Q.hm_assoc ht hq hp).symm
  · exact Q.hm_assoc hp hq ht
theorem bes_bar {r : Bool} {p q : Q} (hp : p.Four) (hq : q.Four) : (bes r p q).bar = bes r q.bar p.bar := by
  cases r
  · exact Q.bar_hm hq hp
  · exact Q.bar_hm hp hq
theorem bes_size {r : Bool} {p q : Q} (hp : p.Four) (hq : q.Four) : (bes r p q).size = p.size * q.size := by
  cases r
  · exact (Q.size_hm hq hp).trans (Int.mul_comm _ _)
  · exact Q.size_hm hp hq
theorem bes_one (r : Bool) (q : Q) : bes r q ⟨2, 0, 0, 0⟩ = q := by
  cases r
  · exact Q.one_hm q
  · exact Q.hm_one q
theorem one_bes (r : Bool) (q : Q) : bes r ⟨2, 0, 0, 0⟩ q = q := by
  cases r
  · exact Q.hm_one q
  · exact Q.one_hm q
theorem bes_against (r : Bool) (p q : Q) : bes (!r) p q = bes r q p := by cases r <;> rfl
def Q.smul (k : Int) (q : Q) : Q := ⟨k * q.a, k * q.b, k * q.c, k * q.d⟩
theorem Q.Four.add {p q : Q} (hp : p.Four) (hq : q.Four) : (p.add q).Four := by
  unfold Q.Four at *
  simp only [Q.add]
  omega
theorem Q.Four.sub {p q : Q} (hp : p.Four) (hq : q.Four) : (p.sub q).Four := by
  unfold Q.Four at *
  simp only [Q.sub]
  omega
theorem Q.four_0 : Q.Four ⟨0, 0, 0, 0⟩ := by decide
theorem Q.dbl_sub (p q : Q) : (p.sub q).dbl = p.dbl.sub q.dbl := by apply Q.ext' <;> simp only [Q.dbl, Q.sub] <;> omega
theorem Q.dbl_add (p q : Q) : (p.add q).dbl = p.dbl.add q.dbl := by apply Q.ext' <;> simp only [Q.dbl, Q.add] <;> omega
theorem Q.mul_sub (p q t : Q) : (p.sub q).mul t = (p.mul t).sub (q.mul t) := by apply Q.ext' <;> simp only [Q.mul, Q.sub] <;> grind
theorem Q.mul_sub' (p q t : Q) : t.mul (p.sub q) = (t.mul p).sub (t.mul q) := by apply Q.ext' <;> simp only [Q.mul, Q.sub] <;> grind
theorem Q.mul_add (p q t : Q) : (p.add q).mul t = (p.mul t).add (q.mul t) := by apply Q.ext' <;> simp only [Q.mul, Q.add] <;> grind
theorem Q.mul_add' (p q t : Q) : t.mul (p.add q) = (t.mul p).add (t.mul q) := by apply Q.ext' <;> simp only [Q.mul, Q.add] <;> grind
theorem Q.hm_sub {p q t : Q} (hp : p.Four) (hq : q.Four) (ht : t.Four) : (p.sub q).hm t = (p.hm t).sub (q.hm t) := by
  apply Q.dbl_inj
  rw [Q.hm2 (hp.sub hq) ht, Q.dbl_sub, Q.hm2 hp ht, Q.hm2 hq ht, Q.mul_sub]
theorem Q.hm_sub' {p q t : Q} (hp : p.Four) (hq : q.Four) (ht : t.Four) : t.hm (p.sub q) = (t.hm p).sub (t.hm q) := by
  apply Q.dbl_inj
  rw [Q.hm2 ht (hp.sub hq), Q.dbl_sub, Q.hm2 ht hp, Q.hm2 ht hq, Q.mul_sub']
theorem Q.hm_add {p q t : Q} (hp : p.Four) (hq : q.Four) (ht : t.Four) : (p.add q).hm t = (p.hm t).add (q.hm t) := by
  apply Q.dbl_inj
  rw [Q.hm2 (hp.add hq) ht, Q.dbl_add, Q.hm2 hp ht, Q.hm2 hq ht, Q.mul_add]
theorem Q.hm_add' {p q t : Q} (hp : p.Four) (hq : q.Four) (ht : t.Four) : t.hm (p.add q) = (t.hm p).add (t.hm q) := by
  apply Q.dbl_inj
  rw [Q.hm2 ht (hp.add hq), Q.dbl_add, Q.hm2 ht hp, Q.hm2 ht hq, Q.mul_add']
theorem bes_sub {r : Bool} {p q t : Q} (hp : p.Four) (hq : q.Four) (ht : t.Four) : bes r (p.sub q) t = (bes r p t).sub (bes r q t) := by
  cases r
  · exact Q.hm_sub' hp hq ht
  · exact Q.hm_sub hp hq ht
theorem bes_sub' {r : Bool} {p q t : Q} (hp : p.Four) (hq : q.Four) (ht : t.Four) : bes r t (p.sub q) = (bes r t p).sub (bes r t q) := by
  cases r
  · exact Q.hm_sub hp hq ht
  · exact Q.hm_sub' hp hq ht
theorem bes_add {r : Bool} {p q t : Q} (hp : p.Four) (hq : q.Four) (ht : t.Four) : bes r (p.add q) t = (bes r p t).add (bes r q t) := by
  cases r
  · exact Q.hm_add' hp hq ht
  · exact Q.hm_add hp hq ht
theorem bes_add' {r : Bool} {p q t : Q} (hp : p.Four) (hq : q.Four) (ht : t.Four) : bes r t (p.add q) = (bes r t p).add (bes r t q) := by
  cases r
  · exact Q.hm_add hp hq ht
  · exact Q.hm_add' hp hq ht
theorem hm_num (m : Int) (q : Q) : q.hm ⟨2 * m, 0, 0, 0⟩ = q.smul m := by
  have : q.mul ⟨2 * m, 0, 0, 0⟩ = (q.smul m).dbl := by apply Q.ext' <;> simp only [Q.mul, Q.dbl, Q.smul] <;> grind
  unfold Q.hm
  rw [this, Q.half_dbl]
theorem num_hm (m : Int) (q : Q) : Q.hm ⟨2 * m, 0, 0, 0⟩ q = q.smul m := by
  have : Q.mul ⟨2 * m, 0, 0, 0⟩ q = (q.smul m).dbl := by apply Q.ext' <;> simp only [Q.mul, Q.dbl, Q.smul] <;> grind
  unfold Q.hm
  rw [this, Q.half_dbl]
theorem bes_undo {r : Bool} {q o : Q} (hq : q.Four) (ho : o.Four) : bes r (bes r q o) o.bar = q.smul o.size := by
  cases r
  · show o.bar.hm (o.hm q) = _
    rw [← Q.hm_assoc ho.bar ho hq, Q.bar_hm' ho, num_hm]
  · show (q.hm o).hm o.bar = _
    rw [Q.hm_assoc hq ho ho.bar, Q.hm_bar ho, hm_num]
theorem bes_undo' {r : Bool} {q o : Q} (hq : q.Four) (ho : o.Four) : bes r (bes r q o.bar) o = q.smul o.size := by
  have := bes_undo (r := r) hq ho.bar
  rwa [Q.bar_bar, Q.size_bar] at this
theorem smul_sq (k : Int) (q : Q) : (q.smul k).sq = k * k * q.sq := by
  simp only [Q.smul, Q.sq]
  grind
theorem smul_inj {k : Int} (hk : k ≠ 0) {p q : Q} (h : p.smul k = q.smul k) : p = q := by
  have h1 := congrArg Q.a h
  have h2 := congrArg Q.b h
  have h3 := congrArg Q.c h
  have h4 := congrArg Q.d h
  exact Q.ext' (Int.eq_of_mul_eq_mul_left hk h1) (Int.eq_of_mul_eq_mul_left hk h2) (Int.eq_of_mul_eq_mul_left hk h3) (Int.eq_of_mul_eq_mul_left hk h4)
theorem sub_self' (q : Q) : q.sub q = ⟨0, 0, 0, 0⟩ := by apply Q.ext' <;> simp only [Q.sub] <;> omega
theorem sub_zero_iff {p q : Q} (h : p.sub q = ⟨0, 0, 0, 0⟩) : p = q := by
  have h1 := congrArg Q.a h
  have h2 := congrArg Q.b h
  have h3 := congrArg Q.c h
  have h4 := congrArg Q.d h
  simp only [Q.sub] at h1 h2 h3 h4
  apply Q.ext' <;> omega
theorem sub_add' (p q : Q) : q.add (p.sub q) = p := by apply Q.ext' <;> simp only [Q.sub, Q.add] <;> omega
/-- what is nought times a four that is not nought, is nought -/
theorem bes_zero {r : Bool} {p q : Q} (hp : p.Four) (hq : q.Four) (h0 : q ≠ ⟨0, 0, 0, 0⟩) (h : bes r p q = ⟨0, 0, 0, 0⟩) : p = ⟨0, 0, 0, 0⟩ := by
  have h1 := bes_size (r := r) hp hq
  rw [h] at h1
  have h2 := Q.size_pos hq h0
  have h3 : Q.size ⟨0, 0, 0, 0⟩ = 0 := by decide
  rw [h3] at h1
  rcases Int.mul_eq_zero.1 h1.symm with h4 | h4
  · exact (Q.size_zero hp).1 h4
  · omega
theorem bar_ne {q : Q} (h : q ≠ ⟨0, 0, 0, 0⟩) : q.bar ≠ ⟨0, 0, 0, 0⟩ := fun e => h (by
  have := congrArg Q.bar e
  rw [Q.bar_bar] at this
  rw [this]
  rfl)
theorem zero_bes (r : Bool) (q : Q) : bes r ⟨0, 0, 0, 0⟩ q = ⟨0, 0, 0, 0⟩ := by
  cases r <;> (apply Q.ext' <;> simp only [bes, Q.hm, Q.half, Q.mul, Bool.false_eq_true, if_false, if_true, Int.zero_mul, Int.mul_zero, Int.sub_self, Int.add_zero] <;> rfl)
theorem bes_zero' (r : Bool) (q : Q) : bes r q ⟨0, 0, 0, 0⟩ = ⟨0, 0, 0, 0⟩ := by
  have := zero_bes (!r) q
  rwa [bes_against] at this

/-! ### the nearest -/
def evensQ (w : Q) (m : Int) : Q := ⟨2 * ((w.a + m) / (2 * m)), 2 * ((w.b + m) / (2 * m)), 2 * ((w.c + m) / (2 * m)), 2 * ((w.d + m) / (2 * m))⟩
def oddsQ (w : Q) (m : Int) : Q := ⟨2 * (w.a / (2 * m)) + 1, 2 * (w.b / (2 * m)) + 1, 2 * (w.c / (2 * m)) + 1, 2 * (w.d / (2 * m)) + 1⟩
def apartQ (w : Q) (m : Int) (q : Q) : Int := (w.sub (q.smul m)).sq
def nearQ (w : Q) (m : Int) : Q := if apartQ w m (oddsQ w m) < apartQ w m (evensQ w m) then oddsQ w m else evensQ w m
instance near_qc {w : Q} {m : Int} {a b : Nat} [h0 : Ps m] [h1 : QC w a] [h2 : SzC m b] : QC (nearQ w m) (max a b + 6) := by
  have e : ∀ k : Nat, Nat.log2 2 + 1 = 2 ∧ Nat.log2 1 + 1 = 1 := fun _ => by decide
  have two : SzC (2 : Int) 2 := ⟨by decide⟩
  have one : SzC (1 : Int) 1 := ⟨by decide⟩
  have ev : ∀ x : Int, SzC x a → SzC (2 * ((x + m) / (2 * m))) (max a b + 6) := fun x hx => by
    haveI := two
    exact SzC.mono (inferInstance : SzC (2 * ((x + m) / (2 * m))) (2 + (max a b + 1))) (by omega)
  have od : ∀ x : Int, SzC x a → SzC (2 * (x / (2 * m)) + 1) (max a b + 6) := fun x hx => by
    haveI := two
    haveI := one
    exact SzC.mono (inferInstance : SzC (2 * (x / (2 * m)) + 1) (max (2 + a) 1 + 1)) (by omega)
  unfold nearQ
  split
  · exact ⟨od _ h1.a, od _ h1.b, od _ h1.c, od _ h1.d⟩
  · exact ⟨ev _ h1.a, ev _ h1.b, ev _ h1.c, ev _ h1.d⟩
instance smul_qc {k : Int} {q : Q} {a b : Nat} [h1 : SzC k a] [h2 : QC q b] : QC (q.smul k) (a + b) := ⟨inferInstanceAs (SzC (k * q.a) _), inferInstanceAs (SzC (k * q.b) _), inferInstanceAs (SzC (k * q.c) _), inferInstanceAs (SzC (k * q.d) _)⟩
theorem near1 {m : Int} (hm : 0 < m) (x : Int) : (x - m * (2 * ((x + m) / (2 * m)))) * (x - m * (2 * ((x + m) / (2 * m)))) + (x - m * (2 * (x / (2 * m)) + 1)) * (x - m * (2 * (x / (2 * m)) + 1)) ≤ m * m := by
  have h2 : 0 < 2 * m := by omega
  have e := Int.mul_ediv_add_emod x (2 * m)
  have r0 := Int.emod_nonneg x (b := 2 * m) (by omega)
  have r1 := Int.emod_lt_of_pos x h2
  have e2 : (x + m) / (2 * m) = x / (2 * m) + (x % (2 * m) + m) / (2 * m) := by
    have : x + m = (x % (2 * m) + m) + 2 * m * (x / (2 * m)) := by omega
    rw [this, Int.add_mul_ediv_left _ _ (by omega)]
    have e3 : (x % (2 * m) + m + 2 * m * (x / (2 * m)) - m) = x := by omega
    rw [show x % (2 * m) + m + 2 * m * (x / (2 * m)) = x + m by omega] at *
    omega
  generalize x / (2 * m) = k at *
  generalize x % (2 * m) = ρ at *
  by_cases h : ρ < m
  · have e3 : (ρ + m) / (2 * m) = 0 := Int.ediv_eq_zero_of_lt (by omega) (by omega)
    rw [e2, e3]
    have p : 0 ≤ ρ * (m - ρ) := Int.mul_nonneg r0 (by omega)
    have a1 : x - m * (2 * (k + 0)) = ρ := by rw [← e]; grind
    have a2 : x - m * (2 * k + 1) = ρ - m := by rw [← e]; grind
    rw [a1, a2]
    grind
  · have e3 : (ρ + m) / (2 * m) = 1 := by
      have : ρ + m = (ρ - m) + 2 * m * 1 := by omega
      rw [this, Int.add_mul_ediv_left _ _ (by omega), Int.ediv_eq_zero_of_lt (by omega) (by omega)]
      rfl
    rw [e2, e3]
    have p : 0 ≤ (ρ - m) * (2 * m - ρ) := Int.mul_nonneg (by omega) (by omega)
    have a1 : x - m * (2 * (k + 1)) = ρ - 2 * m := by rw [← e]; grind
    have a2 : x - m * (2 * k + 1) = ρ - m := by rw [← e]; grind
    rw [a1, a2]
    grind
theorem near_le {m : Int} (hm : 0 < m) (w : Q) : apartQ w m (nearQ w m) ≤ 2 * (m * m) := by
  have h1 := near1 hm w.a
  have h2 := near1 hm w.b
  have h3 := near1 hm w.c
  have h4 := near1 hm w.d
  have hs : apartQ w m (evensQ w m) + apartQ w m (oddsQ w m) ≤ 4 * (m * m) := by
    unfold apartQ Q.sq evensQ oddsQ Q.sub Q.smul
    simp only
    omega
  unfold nearQ
  split <;> omega
theorem near_four (w : Q) (m : Int) : (nearQ w m).Four := by
  unfold nearQ Q.Four
  split
  · unfold oddsQ
    simp only
    omega
  · unfold evensQ
    simp only
    omega
theorem near_exact {m : Int} (hm : 0 < m) {q : Q} (hq : q.Four) : nearQ (q.smul m) m = q := by
  have h2 : 0 < 2 * m := by omega
  have key : ∀ x : Int, (x % 2 = 0 → 2 * ((m * x + m) / (2 * m)) = x) ∧ (x % 2 = 1 → 2 * (m * x / (2 * m)) + 1 = x) := fun x => by
    constructor
    · intro h
      have e : m * x + m = m + 2 * m * (x / 2) := by
        have : x = 2 * (x / 2) := by omega
        rw [show m * x = m * (2 * (x / 2)) by rw [← this]]
        grind
      rw [e, Int.add_mul_ediv_left _ _ (by omega), Int.ediv_eq_zero_of_lt (by omega) (by omega)]
      omega
    · intro h
      have e : m * x = m + 2 * m * (x / 2) := by
        have : x = 2 * (x / 2) + 1 := by omega
        rw [show m * x = m * (2 * (x / 2) + 1) by rw [← this]]
        grind
      rw [e, Int.add_mul_ediv_left _ _ (by omega), Int.ediv_eq_zero_of_lt (by omega) (by omega)]
      omega
  have z : apartQ (q.smul m) m q = 0 := by
    unfold apartQ
    rw [sub_self']
    decide
  obtain ⟨f1, f2, f3⟩ := hq
  by_cases h : q.a % 2 = 0
  · have e : evensQ (q.smul m) m = q := by
      apply Q.ext' <;> simp only [evensQ, Q.smul]
      · exact (key q.a).1 h
      · exact (key q.b).1 (by omega)
      · exact (key q.c).1 (by omega)
      · exact (key q.d).1 (by omega)
    unfold nearQ
    rw [e, z, if_neg]
    have := Q.sq_nonneg ((q.smul m).sub ((oddsQ (q.smul m) m).smul m))
    unfold apartQ
    omega
  · have e : oddsQ (q.smul m) m = q := by
      apply Q.ext' <;> simp only [oddsQ, Q.smul]
      · exact (key q.a).2 (by omega)
      · exact (key q.b).2 (by omega)
      · exact (key q.c).2 (by omega)
      · exact (key q.d).2 (by omega)
    unfold nearQ
    rw [e, z]
    have hne : apartQ (q.smul m) m (evensQ (q.smul m) m) ≠ 0 := by
      intro h0
      unfold apartQ at h0
      have h1 := sub_zero_iff (Q.sq_zero (Int.le_of_eq h0))
      have h3 := smul_inj (by omega) h1
      have h4 := congrArg Q.a h3
      unfold evensQ at h4
      simp only at h4
      omega
    have := Q.sq_nonneg ((q.smul m).sub ((evensQ (q.smul m) m).smul m))
    unfold apartQ at hne ⊢
    rw [if_pos (by omega)]

/-! ### division with a rest -/
def divQ (r : Bool) (p o : Q) : Q := nearQ (bes r p o.bar) o.size
def restQ (r : Bool) (p o : Q) : Q := p.sub (bes r (divQ r p o) o)
theorem div_four (r : Bool) (p o : Q) : (divQ r p o).Four := near_four _ _
theorem rest_four {r : Bool} {p o : Q} (hp : p.Four) (ho : o.Four) : (restQ r p o).Four := hp.sub (bes_four (div_four r p o) ho)
theorem rest_bes {r : Bool} {p o q : Q} (hp : p.Four) (ho : o.Four) (hq : q.Four) : bes r (p.sub (bes r q o)) o.bar = (bes r p o.bar).sub (q.smul o.size) := by
  rw [bes_sub hp (bes_four hq ho) ho.bar, bes_undo hq ho]
theorem rest_lt {r : Bool} {p o : Q} (hp : p.Four) (ho : o.Four) (h0 : o ≠ ⟨0, 0, 0, 0⟩) : (restQ r p o).size < o.size := by
  have hm := Q.size_pos ho h0
  have hr := rest_four (r := r) hp ho
  have h1 := rest_bes (r := r) hp ho (div_four r p o)
  have h2 := bes_size (r := r) hr ho.bar
  have h3 := Q.size4 (bes_four (r := r) hr ho.bar)
  have h4 := near_le hm (bes r p o.bar)
  unfold restQ at h2 h3
  rw [h1] at h2 h3
  rw [Q.size_bar] at h2
  have h5 : apartQ (bes r p o.bar) o.size (nearQ (bes r p o.bar) o.size) = ((bes r p o.bar).sub ((divQ r p o).smul o.size)).sq := rfl
  rw [h5, h3, h2] at h4
  unfold restQ
  generalize (p.sub (bes r (divQ r p o) o)).size = a at *
  generalize o.size = m at *
  by_cases hc : a < m
  · exact hc
  · exfalso
    have : m * m ≤ a * m := Int.mul_le_mul_of_nonneg_right (by omega) (by omega)
    have : 0 < m * m := Int.mul_pos hm hm
    omega
instance div_qc {r : Bool} {p o : Q} {a b : Nat} [h0 : Ps o.size] [h1 : QC p a] [h2 : QC o b] : QC (divQ r p o) (a + b + b + 12) := (inferInstance : QC (nearQ (bes r p o.bar) o.size) _).mono (by omega)
instance rest_qc {r : Bool} {p o : Q} {a b : Nat} [h0 : Ps o.size] [h1 : QC p a] [h2 : QC o b] : QC (restQ r p o) (a + b + b + b + 16) := (inferInstance : QC (p.sub (bes r (divQ r p o) o)) _).mono (by omega)
/-- a multiple leaves nought, and its quotient is told -/
theorem div_exact {r : Bool} {q o : Q} (hq : q.Four) (ho : o.Four) (h0 : o ≠ ⟨0, 0, 0, 0⟩) : divQ r (bes r q o) o = q ∧ restQ r (bes r q o) o = ⟨0, 0, 0, 0⟩ := by
  have h1 : divQ r (bes r q o) o = q := by
    unfold divQ
    rw [bes_undo hq ho, near_exact (Q.size_pos ho h0) hq]
  refine ⟨h1, ?_⟩
  unfold restQ
  rw [h1, sub_self']
theorem rest_zero {r : Bool} {p o : Q} (h : restQ r p o = ⟨0, 0, 0, 0⟩) : p = bes r (divQ r p o) o := sub_zero_iff h
/-- what is so many times q, is a multiple -/
theorem of_smul {r : Bool} {p o q : Q} (hp : p.Four) (ho : o.Four) (hq : q.Four) (h0 : o ≠ ⟨0, 0, 0, 0⟩) (h : bes r p o.bar = q.smul o.size) : p = bes r q o := by
  have h1 := rest_bes (r := r) hp ho hq
  rw [h, sub_self'] at h1
  exact sub_zero_iff (bes_zero (hp.sub (bes_four hq ho)) ho.bar (bar_ne h0) h1)
def exactQ (r : Bool) (p o : Q) : Option Q := if restQ r p o = ⟨0, 0, 0, 0⟩ then some (divQ r p o) else none
theorem exact_some {r : Bool} {p o q : Q} (ho : o.Four) (hq : q.Four) (h0 : o ≠ ⟨0, 0, 0, 0⟩) (h : p = bes r q o) : exactQ r p o = some q := by
  obtain ⟨h1, h2⟩ := div_exact (r := r) hq ho h0
  unfold exactQ
  rw [h, h1, h2, if_pos rfl]
theorem exact_iff {r : Bool} {p o q : Q} (ho : o.Four) (h0 : o ≠ ⟨0, 0, 0, 0⟩) : exactQ r p o = some q ↔ q.Four ∧ p = bes r q o := by
  constructor
  · intro h
    unfold exactQ at h
    split at h
    · rename_i hz
      have e := Option.some.inj h
      subst e
      exact ⟨div_four _ _ _, rest_zero hz⟩
    · cases h
  · rintro ⟨hq, h⟩
    exact exact_some ho hq h0 h
/-- found by the parts of what is wanted -/
def wantQ (r : Bool) (p o : Q) : Q := bes r p o.bar
def Q.ov (q : Q) (m : Int) : Q := ⟨q.a / m, q.b / m, q.c / m, q.d / m⟩
def Q.dvd (m : Int) (q : Q) : Prop := q.a % m = 0 ∧ q.b % m = 0 ∧ q.c % m = 0 ∧ q.d % m = 0
instance (m : Int) (q : Q) : Decidable (q.dvd m) := inferInstanceAs (Decidable (_ ∧ _ ∧ _ ∧ _))
theorem ov_smul {m : Int} (hm : m ≠ 0) (q : Q) : (q.smul m).ov m = q ∧ (q.smul m).dvd m := by
  unfold Q.ov Q.smul Q.dvd
  simp only [Int.mul_ediv_cancel_left _ hm, Int.mul_emod_right, and_self]
theorem smul_ov {m : Int} {q : Q} (h : q.dvd m) : (q.ov m).smul m = q := by
  obtain ⟨h1, h2, h3, h4⟩ := h
  have e : ∀ x : Int, x % m = 0 → m * (x / m) = x := fun x h => by have := Int.mul_ediv_add_emod x m; omega
  exact Q.ext' (e _ h1) (e _ h2) (e _ h3) (e _ h4)
theorem exact_parts {r : Bool} {p o : Q} (hp : p.Four) (ho : o.Four) (h0 : o ≠ ⟨0, 0, 0, 0⟩) :
    exactQ r p o = if (wantQ r p o).dvd o.size ∧ ((wantQ r p o).ov o.size).Four then some ((wantQ r p o).ov o.size) else none := by
  have hm := Q.size_pos ho h0
  by_cases h : (wantQ r p o).dvd o.size ∧ ((wantQ r p o).ov o.size).Four
  · rw [if_pos h]
    exact exact_some ho h.2 h0 (of_smul hp ho h.2 h0 (smul_ov h.1).symm)
  · rw [if_neg h]
    unfold exactQ
    rw [if_neg]
    intro hz
    apply h
    have e := rest_zero hz
    have e2 : wantQ r p o = (divQ r p o).smul o.size := by
      unfold wantQ
      conv => lhs; rw [e]
      exact bes_undo (div_four _ _ _) ho
    rw [e2]
    obtain ⟨e3, e4⟩ := ov_smul (show o.size ≠ 0 by omega) (divQ r p o)
    rw [e3]
    exact ⟨e4, div_four _ _ _⟩
end HD

set_option Elab.async false
set_option linter.all false
set_option maxRecDepth 100000
/-! Gd: greatest divisors -/
namespace HD
open PySem L2
theorem rest_half {r : Bool} {p o : Q} (hp : p.Four) (ho : o.Four) (h0 : o ≠ ⟨0, 0, 0, 0⟩) : 2 * (restQ r p o).size ≤ o.size := by
  have hm := Q.size_pos ho h0
  have hr := rest_four (r := r) hp ho
  have h1 := rest_bes (r := r) hp ho (div_four r p o)
  have h2 := bes_size (r := r) hr ho.bar
  have h3 := Q.size4 (bes_four (r := r) hr ho.bar)
  have h4 := near_le hm (bes r p o.bar)
  unfold restQ at h2 h3
  rw [h1] at h2 h3
  rw [Q.size_bar] at h2
  have h5 : apartQ (bes r p o.bar) o.size (nearQ (bes r p o.bar) o.size) = ((bes r p o.bar).sub ((divQ r p o).smul o.size)).sq := rfl
  rw [h5, h3, h2] at h4
  unfold restQ
  generalize (p.sub (bes r (divQ r p o) o)).size = a at *
  generalize o.size = m at *
  by_cases hc : 2 * a ≤ m
  · exact hc
  · exfalso
    have : m * m < 2 * a * m := Int.mul_lt_mul_of_pos_right (by omega) hm
    have e : 2 * a * m = 2 * (a * m) := Int.mul_assoc _ _ _
    omega
theorem lt_of_sq {x : Int} {b : Nat} (h : x * x < 2 ^ b * 2 ^ b) : SzC x b := ⟨by
  have e : ((x.natAbs * x.natAbs : Nat) : Int) = x * x := by rw [Int.natCast_mul]; exact Int.natAbs_mul_self' x
  have h2 : x.natAbs * x.natAbs < 2 ^ b * 2 ^ b := by
    have : ((x.natAbs * x.natAbs : Nat) : Int) < ((2 ^ b * 2 ^ b : Nat) : Int) := by
      rw [e]
      push_cast
      exact h
    exact Int.ofNat_lt.1 this
  exact Nat.lt_of_not_le fun hle => Nat.not_lt.2 (Nat.mul_le_mul hle hle) h2⟩
theorem qc_of_size {q : Q} {b : Nat} (h : q.Four) (hs : 4 * q.size < 2 ^ b * 2 ^ b) : QC q b := by
  have h1 := sq_nn q.a
  have h2 := sq_nn q.b
  have h3 := sq_nn q.c
  have h4 := sq_nn q.d
  have h5 := Q.size4 h
  unfold Q.sq at h5
  exact ⟨lt_of_sq (by omega), lt_of_sq (by omega), lt_of_sq (by omega), lt_of_sq (by omega)⟩
structure G3 where
  a : Q
  s : Q
  t : Q
def G3.dt (A : G3) : D := .tup [A.a.dt, A.s.dt, A.t.dt]
def stepQ (r : Bool) (A B : G3) : G3 := ⟨restQ r A.a B.a, A.s.sub (bes r (divQ r A.a B.a) B.s), A.t.sub (bes r (divQ r A.a B.a) B.t)⟩
def gq (r : Bool) : Nat → G3 → G3 → G3
  | 0, A, _ => A
  | n + 1, A, B => if B.a = ⟨0, 0, 0, 0⟩ then A else gq r n B (stepQ r A B)
def gdQ (r : Bool) (p o : Q) : G3 := gq r 1998 ⟨p, ⟨2, 0, 0, 0⟩, ⟨0, 0, 0, 0⟩⟩ ⟨o, ⟨0, 0, 0, 0⟩, ⟨2, 0, 0, 0⟩⟩
/-- a sum of multiples of p and o, all fours -/
structure G3.Of (r : Bool) (p o : Q) (A : G3) : Prop where
  fa : A.a.Four
  fs : A.s.Four
  ft : A.t.Four
  eq : A.a = (bes r A.s p).add (bes r A.t o)
theorem step_of {r : Bool} {p o : Q} (hp : p.Four) (ho : o.Four) {A B : G3} (ha : A.Of r p o) (hb : B.Of r p o) : (stepQ r A B).Of r p o := by
  have hq := div_four r A.a B.a
  refine ⟨rest_four ha.fa hb.fa, ha.fs.sub (bes_four hq hb.fs), ha.ft.sub (bes_four hq hb.ft), ?_⟩
  show A.a.sub (bes r (divQ r A.a B.a) B.a) = _
  have e1 : A.a.sub (bes r (divQ r A.a B.a) B.a) = ((bes r A.s p).add (bes r A.t o)).sub (bes r (divQ r A.a B.a) ((bes r B.s p).add (bes r B.t o))) := by rw [← ha.eq, ← hb.eq]
  rw [e1, bes_add' (bes_four hb.fs hp) (bes_four hb.ft ho) hq, ← bes_assoc hq hb.fs hp, ← bes_assoc hq hb.ft ho]
  show _ = (bes r (A.s.sub (bes r (divQ r A.a B.a) B.s)) p).add (bes r (A.t.sub (bes r (divQ r A.a B.a) B.t)) o)
  rw [bes_sub ha.fs (bes_four hq hb.fs) hp, bes_sub ha.ft (bes_four hq hb.ft) ho]
  apply Q.ext' <;> simp only [Q.add, Q.sub] <;> omega
theorem gq_spec {r : Bool} {p o : Q} (hp : p.Four) (ho : o.Four) : ∀ (n : Nat) (A B : G3), A.Of r p o → B.Of r p o → B.a.size < 2 ^ n →
    (gq r n A B).Of r p o ∧ ∃ u v : Q, u.Four ∧ v.Four ∧ A.a = bes r u (gq r n A B).a ∧ B.a = bes r v (gq r n A B).a := by
  intro n
  induction n with
  | zero =>
    intro A B ha hb h
    have h0 : B.a = ⟨0, 0, 0, 0⟩ := (Q.size_zero hb.fa).1 (by have := B.a.size_nonneg; omega)
    exact ⟨ha, ⟨2, 0, 0, 0⟩, ⟨0, 0, 0, 0⟩, Q.one_four, Q.four_0, (one_bes r _).symm, by rw [h0]; exact (zero_bes r _).symm⟩
  | succ n ih =>
    intro A B ha hb h
    unfold gq
    by_cases h0 : B.a = ⟨0, 0, 0, 0⟩
    · rw [if_pos h0]
      exact ⟨ha, ⟨2, 0, 0, 0⟩, ⟨0, 0, 0, 0⟩, Q.one_four, Q.four_0, (one_bes r _).symm, by rw [h0]; exact (zero_bes r _).symm⟩
    · rw [if_neg h0]
      have hh := rest_half (r := r) ha.fa hb.fa h0
      have hlt : (stepQ r A B).a.size < 2 ^ n := by
        show (restQ r A.a B.a).size < 2 ^ n
        rw [Int.pow_succ] at h
        omega
      obtain ⟨g1, u, v, hu, hv, e1, e2⟩ := ih B (stepQ r A B) hb (step_of hp ho ha hb) hlt
      refine ⟨g1, (bes r (divQ r A.a B.a) u).add v, u, (bes_four (div_four _ _ _) hu).add hv, hu, ?_, e1⟩
      rw [bes_add (bes_four (div_four _ _ _) hu) hv g1.fa, bes_assoc (div_four _ _ _) hu g1.fa, ← e1, ← e2]
      exact (sub_add' _ _).symm
theorem gdQ_spec {r : Bool} {p o : Q} (hp : p.Four) (ho : o.Four) (hs : o.size < 2 ^ 1998) :
    (gdQ r p o).Of r p o ∧ ∃ u v : Q, u.Four ∧ v.Four ∧ p = bes r u (gdQ r p o).a ∧ o = bes r v (gdQ r p o).a := by
  refine gq_spec hp ho 1998 _ _ ⟨hp, Q.one_four, Q.four_0, ?_⟩ ⟨ho, Q.four_0, Q.one_four, ?_⟩ hs
  · rw [one_bes, zero_bes]
    apply Q.ext' <;> simp only [Q.add] <;> omega
  · rw [one_bes, zero_bes]
    apply Q.ext' <;> simp only [Q.add] <;> omega
theorem szc_lt {x : Int} {n k : Nat} (h : SzC x n) (hk : n ≤ k) : x < 2 ^ k := by
  have h1 := (h.mono hk).lt
  have h2 : x ≤ (x.natAbs : Int) := Int.le_natAbs
  have h3 : ((x.natAbs : Nat) : Int) < ((2 ^ k : Nat) : Int) := Int.ofNat_lt.2 h1
  push_cast at h3
  exact Int.lt_of_le_of_lt h2 h3

theorem gq_sz {r : Bool} {p o : Q} (hp : p.Four) (ho : o.Four) : ∀ (n : Nat) (A B : G3) (c : Nat), A.Of r p o → B.Of r p o → A.a.size < 2 ^ 1998 → B.a.size < 2 ^ 1998 → QC A.s c → QC A.t c → QC B.s c → QC B.t c →
    QC (gq r n A B).a 1000 ∧ QC (gq r n A B).s (c + n * 3030) ∧ QC (gq r n A B).t (c + n * 3030) := by
  have big : (4 : Int) * 2 ^ 1998 = 2 ^ 1000 * 2 ^ 1000 := by decide +kernel
  intro n
  induction n with
  | zero =>
    intro A B c ha hb s1 s2 q1 q2 q3 q4
    show QC A.a 1000 ∧ QC A.s _ ∧ QC A.t _
    exact ⟨qc_of_size ha.fa (by omega), q1.mono (by omega), q2.mono (by omega)⟩
  | succ n ih =>
    intro A B c ha hb s1 s2 q1 q2 q3 q4
    unfold gq
    by_cases h0 : B.a = ⟨0, 0, 0, 0⟩
    · rw [if_pos h0]
      exact ⟨qc_of_size ha.fa (by omega), q1.mono (by omega), q2.mono (by omega)⟩
    · rw [if_neg h0]
      have hh := rest_half (r := r) ha.fa hb.fa h0
      have hn := (restQ r A.a B.a).size_nonneg
      haveI i1 : QC A.a 1000 := qc_of_size ha.fa (by omega)
      haveI i2 : QC B.a 1000 := qc_of_size hb.fa (by omega)
      haveI : Ps B.a.size := ⟨Q.size_pos hb.fa h0⟩
      haveI := q1
      haveI := q2
      haveI := q3
      haveI := q4
      have e2 : (stepQ r A B).a.size < 2 ^ 1998 := by
        show (restQ r A.a B.a).size < 2 ^ 1998
        omega
      have e3 : QC (stepQ r A B).s (c + 3030) := QC.mono (inferInstance : QC (A.s.sub (bes r (divQ r A.a B.a) B.s)) (max c (1000 + 1000 + 1000 + 12 + c + 3) + 1)) (by omega)
      have e4 : QC (stepQ r A B).t (c + 3030) := QC.mono (inferInstance : QC (A.t.sub (bes r (divQ r A.a B.a) B.t)) (max c (1000 + 1000 + 1000 + 12 + c + 3) + 1)) (by omega)
      obtain ⟨g1, g2, g3⟩ := ih B (stepQ r A B) (c + 3030) hb (step_of hp ho ha hb) s2 e2 (q3.mono (by omega)) (q4.mono (by omega)) e3 e4
      exact ⟨g1, g2.mono (by omega), g3.mono (by omega)⟩
theorem gdQ_sz {r : Bool} {p o : Q} (hp : p.Four) (ho : o.Four) (s1 : p.size < 2 ^ 1998) (s2 : o.size < 2 ^ 1998) : QC (gdQ r p o).a 1000 ∧ QC (gdQ r p o).s 6100000 ∧ QC (gdQ r p o).t 6100000 := by
  have z1 : QC (⟨2, 0, 0, 0⟩ : Q) 2 := ⟨⟨by decide⟩, ⟨by decide⟩, ⟨by decide⟩, ⟨by decide⟩⟩
  have z0 : QC (⟨0, 0, 0, 0⟩ : Q) 2 := ⟨⟨by decide⟩, ⟨by decide⟩, ⟨by decide⟩, ⟨by decide⟩⟩
  obtain ⟨g1, g2, g3⟩ := gq_sz (r := r) hp ho 1998 ⟨p, ⟨2, 0, 0, 0⟩, ⟨0, 0, 0, 0⟩⟩ ⟨o, ⟨0, 0, 0, 0⟩, ⟨2, 0, 0, 0⟩⟩ 2
    ⟨hp, Q.one_four, Q.four_0, by rw [one_bes, zero_bes]; apply Q.ext' <;> simp only [Q.add] <;> omega⟩ ⟨ho, Q.four_0, Q.one_four, by rw [one_bes, zero_bes]; apply Q.ext' <;> simp only [Q.add] <;> omega⟩ s1 s2 z1 z0 z0 z1
  exact ⟨g1, g2.mono (by decide), g3.mono (by decide)⟩
end HD

set_option Elab.async false
set_option linter.all false
set_option maxRecDepth 100000
/-! Tb: whole numbers' greatest divisor, spots, tables in lowest terms -/
namespace HD
open PySem L2
/-! ### greatest divisors of whole numbers -/
def gcdN (l : List Int) (g : Nat) : Nat := l.foldl (fun g x => Nat.gcd g x.natAbs) g
def gcdL (l : List Int) : Int := (gcdN l 0 : Nat)
theorem modD_n {i j : Int} (h : j ≠ 0) : modD (.int i) (.int j) = some (.v (.int (i.fmod j))) := by
  show (if j = 0 then none else some (Vn.v (D.int (i.fmod j)))) = _
  rw [if_neg h]
theorem fmod_lt {f o : Int} (h : o ≠ 0) : (f.fmod o).natAbs < o.natAbs := by
  rcases Int.lt_or_gt_of_ne h with h' | h
  · have h1 : f.fmod o = f % o + if 0 ≤ o ∨ o ∣ f then 0 else o := Int.fmod_eq_emod
    have h2 := Int.emod_nonneg f h
    have h3 := Int.emod_lt_of_neg f h'
    by_cases hd : 0 ≤ o ∨ o ∣ f
    · rw [if_pos hd] at h1
      rcases hd with hd | hd
      · omega
      · rw [Int.emod_eq_zero_of_dvd hd] at h1
        omega
    · rw [if_neg hd] at h1
      have h4 : f % o ≠ 0 := fun e => hd (.inr (Int.dvd_of_emod_eq_zero e))
      omega
  · rw [Int.fmod_eq_emod_of_nonneg _ (by omega)]
    have h2 := Int.emod_nonneg f (b := o) (by omega)
    have h3 := Int.emod_lt_of_pos f h
    omega
theorem fmod_gcd (f o : Int) : Nat.gcd o.natAbs (f.fmod o).natAbs = Nat.gcd f.natAbs o.natAbs := by
  have e : f.fmod o = f - o * f.fdiv o := Int.fmod_def f o
  apply Nat.dvd_antisymm
  · apply Nat.dvd_gcd
    · have h1 : (Nat.gcd o.natAbs (f.fmod o).natAbs : Int) ∣ o := Int.ofNat_dvd_left.2 (Nat.gcd_dvd_left _ _)
      have h2 : (Nat.gcd o.natAbs (f.fmod o).natAbs : Int) ∣ f.fmod o := Int.ofNat_dvd_left.2 (Nat.gcd_dvd_right _ _)
      have h3 : (Nat.gcd o.natAbs (f.fmod o).natAbs : Int) ∣ f := by
        have e2 : f.fmod o + o * f.fdiv o = f := by omega
        have h4 := Int.dvd_add h2 (Int.dvd_mul_of_dvd_left h1 (c := f.fdiv o))
        rwa [e2] at h4
      exact Int.ofNat_dvd_left.1 h3
    · exact Nat.gcd_dvd_left _ _
  · apply Nat.dvd_gcd
    · exact Nat.gcd_dvd_right _ _
    · have h1 : (Nat.gcd f.natAbs o.natAbs : Int) ∣ f := Int.ofNat_dvd_left.2 (Nat.gcd_dvd_left _ _)
      have h2 : (Nat.gcd f.natAbs o.natAbs : Int) ∣ o := Int.ofNat_dvd_left.2 (Nat.gcd_dvd_right _ _)
      have h3 : (Nat.gcd f.natAbs o.natAbs : Int) ∣ f.fmod o := by
        rw [e]
        exact Int.dvd_sub h1 (Int.dvd_mul_of_dvd_left h2)
      exact Int.ofNat_dvd_left.1 h3
theorem gcdN_scale (k : Nat) : ∀ (l : List Int) (g : Nat), gcdN (l.map fun x => (k : Int) * x) (k * g) = k * gcdN l g
  | [], g => rfl
  | x :: l, g => by
    show gcdN (l.map _) (Nat.gcd (k * g) ((k : Int) * x).natAbs) = k * gcdN l (Nat.gcd g x.natAbs)
    rw [Int.natAbs_mul, Int.natAbs_natCast, Nat.gcd_mul_left, gcdN_scale k l]
theorem gcdL_scale (k : Nat) (l : List Int) : gcdL (l.map fun x => (k : Int) * x) = k * gcdL l := by
  have := gcdN_scale k l 0
  rw [Nat.mul_zero] at this
  unfold gcdL
  rw [this, Int.natCast_mul]
theorem gcdN_dvd : ∀ (l : List Int) (g : Nat), gcdN l g ∣ g ∧ ∀ x ∈ l, gcdN l g ∣ x.natAbs
  | [], g => ⟨Nat.dvd_refl _, fun _ h => nomatch h⟩
  | x :: l, g => by
    obtain ⟨h1, h2⟩ := gcdN_dvd l (Nat.gcd g x.natAbs)
    refine ⟨Nat.dvd_trans h1 (Nat.gcd_dvd_left _ _), fun y hy => ?_⟩
    rcases List.mem_cons.1 hy with e | hy
    · rw [e]
      exact Nat.dvd_trans h1 (Nat.gcd_dvd_right _ _)
    · exact h2 y hy
theorem gcdL_dvd {l : List Int} {x : Int} (h : x ∈ l) : gcdL l ∣ x := Int.ofNat_dvd_left.2 ((gcdN_dvd l 0).2 x h)
theorem gcdL_nonneg (l : List Int) : 0 ≤ gcdL l := Int.natCast_nonneg _
theorem gcdL_pos {l : List Int} {x : Int} (h : x ∈ l) (hx : x ≠ 0) : 0 < gcdL l := by
  have h1 := gcdL_nonneg l
  have h2 : gcdL l ≠ 0 := fun e => hx (Int.zero_dvd.1 (by rw [← e]; exact gcdL_dvd h))
  omega
theorem gcdL_le {l : List Int} {x : Int} (h : x ∈ l) (hx : 0 < x) : gcdL l ≤ x := Int.le_of_dvd hx (gcdL_dvd h)
/-- in lowest terms -/
def lowL (l : List Int) : List Int := l.map (· / gcdL l)
theorem mul_low {l : List Int} (h : 0 < gcdL l) : (lowL l).map (fun x => gcdL l * x) = l := by
  unfold lowL
  rw [List.map_map]
  conv => rhs; rw [← List.map_id l]
  apply List.map_congr_left
  intro x hx
  show gcdL l * (x / gcdL l) = x
  exact Int.mul_ediv_cancel' (gcdL_dvd hx)
theorem gcdL_low {l : List Int} (h : 0 < gcdL l) : gcdL (lowL l) = 1 := by
  have h1 := gcdL_scale (gcdN l 0) (lowL l)
  have e : ((gcdN l 0 : Nat) : Int) = gcdL l := rfl
  rw [e, mul_low h] at h1
  have h2 : gcdL l * 1 = gcdL l * gcdL (lowL l) := by omega
  exact (Int.eq_of_mul_eq_mul_left (by omega) h2).symm
theorem low_scale {k : Int} (hk : 0 < k) {l : List Int} (h : 0 < gcdL l) : lowL (l.map fun x => k * x) = lowL l := by
  obtain ⟨m, rfl⟩ := Int.eq_ofNat_of_zero_le (Int.le_of_lt hk)
  unfold lowL
  rw [gcdL_scale, List.map_map]
  apply List.map_congr_left
  intro x hx
  show (m : Int) * x / (m * gcdL l) = x / gcdL l
  exact Int.mul_ediv_mul_of_pos _ _ hk
/-! ### spots, tables -/
structure V3 where
  x : Int
  y : Int
  z : Int
deriving DecidableEq
structure M3 where
  a : V3
  b : V3
  c : V3
deriving DecidableEq
def V3.tp (v : V3) : D := .tup [.int v.x, .int v.y, .int v.z]
def V3.ls (v : V3) : D := .lst [.int v.x, .int v.y, .int v.z]
def M3.tp (m : M3) : D := .tup [m.a.tp, m.b.tp, m.c.tp]
def M3.ls (m : M3) : D := .lst [m.a.ls, m.b.ls, m.c.ls]
def tab (n : Int) (m : M3) : D := .tup [.int n, m.tp]
def V3.dot (v w : V3) : Int := v.x * w.x + v.y * w.y + v.z * w.z
def M3.col (m : M3) : M3 := ⟨⟨m.a.x, m.b.x, m.c.x⟩, ⟨m.a.y, m.b.y, m.c.y⟩, ⟨m.a.z, m.b.z, m.c.z⟩⟩
def M3.app (m : M3) (v : V3) : V3 := ⟨m.a.dot v, m.b.dot v, m.c.dot v⟩
def M3.mul (p q : M3) : M3 := ⟨q.col.app p.a, q.col.app p.b, q.col.app p.c⟩
def V3.ov (v : V3) (g : Int) : V3 := ⟨v.x / g, v.y / g, v.z / g⟩
def M3.ov (m : M3) (g : Int) : M3 := ⟨m.a.ov g, m.b.ov g, m.c.ov g⟩
def V3.sm (k : Int) (v : V3) : V3 := ⟨k * v.x, k * v.y, k * v.z⟩
def M3.sm (k : Int) (m : M3) : M3 := ⟨m.a.sm k, m.b.sm k, m.c.sm k⟩
def V3.l (v : V3) : List Int := [v.x, v.y, v.z]
def M3.l (m : M3) : List Int := [m.a.x, m.a.y, m.a.z, m.b.x, m.b.y, m.b.z, m.c.x, m.c.y, m.c.z]
theorem V3.ext' {v w : V3} (h1 : v.x = w.x) (h2 : v.y = w.y) (h3 : v.z = w.z) : v = w := by
  cases v
  cases w
  simp only at h1 h2 h3
  rw [h1, h2, h3]
theorem M3.ext' {v w : M3} (h1 : v.a = w.a) (h2 : v.b = w.b) (h3 : v.c = w.c) : v = w := by
  cases v
  cases w
  simp only at h1 h2 h3
  rw [h1, h2, h3]
class VC (v : V3) (n : outParam Nat) : Prop where
  x : SzC v.x n
  y : SzC v.y n
  z : SzC v.z n
class MC (m : M3) (n : outParam Nat) : Prop where
  a : VC m.a n
  b : VC m.b n
  c : VC m.c n
theorem VC.mono {v : V3} {m : Nat} (h : VC v m) {n : Nat} (l : m ≤ n) : VC v n := ⟨h.x.mono l, h.y.mono l, h.z.mono l⟩
theorem MC.mono {v : M3} {m : Nat} (h : MC v m) {n : Nat} (l : m ≤ n) : MC v n := ⟨h.a.mono l, h.b.mono l, h.c.mono l⟩
instance vc_x {v : V3} {n : Nat} [h : VC v n] : SzC v.x n := h.x
instance vc_y {v : V3} {n : Nat} [h : VC v n] : SzC v.y n := h.y
instance vc_z {v : V3} {n : Nat} [h : VC v n] : SzC v.z n := h.z
instance mc_a {v : M3} {n : Nat} [h : MC v n] : VC v.a n := h.a
instance mc_b {v : M3} {n : Nat} [h : MC v n] : VC v.b n := h.b
instance mc_c {v : M3} {n : Nat} [h : MC v n] : VC v.c n := h.c
instance vc_mk {a b c : Int} {k l m : Nat} [h1 : SzC a k] [h2 : SzC b l] [h3 : SzC c m] : VC ⟨a, b, c⟩ (max (max k l) m) := ⟨h1.mono (by omega), h2.mono (by omega), h3.mono (by omega)⟩
instance mc_mk {a b c : V3} {k l m : Nat} [h1 : VC a k] [h2 : VC b l] [h3 : VC c m] : MC ⟨a, b, c⟩ (max (max k l) m) := ⟨h1.mono (by omega), h2.mono (by omega), h3.mono (by omega)⟩
instance sz_dot {v w : V3} {m n : Nat} [VC v m] [VC w n] : SzC (v.dot w) (m + n + 2) := by
  unfold V3.dot
  exact SzC.mono inferInstance (by omega)
instance mc_col {m : M3} {n : Nat} [h : MC m n] : MC m.col n := ⟨⟨h.a.x, h.b.x, h.c.x⟩, ⟨h.a.y, h.b.y, h.c.y⟩, ⟨h.a.z, h.b.z, h.c.z⟩⟩
instance vc_app {p : M3} {v : V3} {m n : Nat} [MC p m] [VC v n] : VC (p.app v) (m + n + 2) := ⟨inferInstanceAs (SzC (p.a.dot v) _), inferInstanceAs (SzC (p.b.dot v) _), inferInstanceAs (SzC (p.c.dot v) _)⟩
instance mc_mul {p q : M3} {m n : Nat} [MC p m] [MC q n] : MC (p.mul q) (n + m + 2) := ⟨inferInstanceAs (VC (q.col.app p.a) _), inferInstanceAs (VC (q.col.app p.b) _), inferInstanceAs (VC (q.col.app p.c) _)⟩
instance vc_ov {v : V3} {g : Int} {n : Nat} [Ps g] [VC v n] : VC (v.ov g) n := ⟨inferInstanceAs (SzC (v.x / g) n), inferInstanceAs (SzC (v.y / g) n), inferInstanceAs (SzC (v.z / g) n)⟩
instance mc_ov {v : M3} {g : Int} {n : Nat} [Ps g] [MC v n] : MC (v.ov g) n := ⟨inferInstanceAs (VC (v.a.ov g) n), inferInstanceAs (VC (v.b.ov g) n), inferInstanceAs (VC (v.c.ov g) n)⟩
instance vc_sm {v : V3} {g : Int} {m n : Nat} [SzC g m] [VC v n] : VC (v.sm g) (m + n) := ⟨inferInstanceAs (SzC (g * v.x) _), inferInstanceAs (SzC (g * v.y) _), inferInstanceAs (SzC (g * v.z) _)⟩
instance mc_sm {v : M3} {g : Int} {m n : Nat} [SzC g m] [MC v n] : MC (v.sm g) (m + n) := ⟨inferInstanceAs (VC (v.a.sm g) _), inferInstanceAs (VC (v.b.sm g) _), inferInstanceAs (VC (v.c.sm g) _)⟩
/-! algebra -/
theorem M3.mul_assoc (p q r : M3) : (p.mul q).mul r = p.mul (q.mul r) := by
  apply M3.ext' <;> apply V3.ext' <;> simp only [M3.mul, M3.app, M3.col, V3.dot] <;> grind
theorem M3.app_mul (p q : M3) (v : V3) : (p.mul q).app v = p.app (q.app v) := by
  apply V3.ext' <;> simp only [M3.mul, M3.app, M3.col, V3.dot] <;> grind
theorem M3.sm_mul (k : Int) (p q : M3) : (p.sm k).mul q = (p.mul q).sm k := by
  apply M3.ext' <;> apply V3.ext' <;> simp only [M3.mul, M3.app, M3.col, V3.dot, M3.sm, V3.sm] <;> grind
theorem M3.mul_sm (k : Int) (p q : M3) : p.mul (q.sm k) = (p.mul q).sm k := by
  apply M3.ext' <;> apply V3.ext' <;> simp only [M3.mul, M3.app, M3.col, V3.dot, M3.sm, V3.sm] <;> grind
theorem M3.sm_app (k : Int) (p : M3) (v : V3) : (p.sm k).app v = (p.app v).sm k := by
  apply V3.ext' <;> simp only [M3.app, V3.dot, M3.sm, V3.sm] <;> grind
theorem M3.app_sm (k : Int) (p : M3) (v : V3) : p.app (v.sm k) = (p.app v).sm k := by
  apply V3.ext' <;> simp only [M3.app, V3.dot, V3.sm] <;> grind
def M3.one : M3 := ⟨⟨1, 0, 0⟩, ⟨0, 1, 0⟩, ⟨0, 0, 1⟩⟩
theorem M3.one_mul (p : M3) : M3.one.mul p = p := by
  apply M3.ext' <;> apply V3.ext' <;> simp only [M3.mul, M3.app, M3.col, V3.dot, M3.one] <;> grind
/-! a table and a spot over n, in lowest terms -/
def gT (n : Int) (m : M3) : Int := gcdL (n :: m.l)
def gV (n : Int) (v : V3) : Int := gcdL (n :: v.l)
theorem gT_pos {n : Int} (m : M3) (h : 0 < n) : 0 < gT n m := gcdL_pos (List.mem_cons_self ..) (by omega)
theorem gV_pos {n : Int} (v : V3) (h : 0 < n) : 0 < gV n v := gcdL_pos (List.mem_cons_self ..) (by omega)
theorem gT_sz {n : Int} {m : M3} {k : Nat} (h : 0 < n) (hs : SzC n k) : SzC (gT n m) k := by
  have h1 := gT_pos m h
  have h2 := gcdL_le (l := n :: m.l) (List.mem_cons_self ..) h
  have h3 := hs.lt
  refine ⟨?_⟩
  unfold gT at *
  omega
theorem gV_sz {n : Int} {m : V3} {k : Nat} (h : 0 < n) (hs : SzC n k) : SzC (gV n m) k := by
  have h1 := gV_pos m h
  have h2 := gcdL_le (l := n :: m.l) (List.mem_cons_self ..) h
  have h3 := hs.lt
  refine ⟨?_⟩
  unfold gV at *
  omega
theorem lowT_l (n : Int) (m : M3) : (n / gT n m) :: (m.ov (gT n m)).l = lowL (n :: m.l) := rfl
theorem lowV_l (n : Int) (m : V3) : (n / gV n m) :: (m.ov (gV n m)).l = lowL (n :: m.l) := rfl
theorem M3.l_inj {p q : M3} (h : p.l = q.l) : p = q := by
  unfold M3.l at h
  simp only [List.cons.injEq] at h
  obtain ⟨h1, h2, h3, h4, h5, h6, h7, h8, h9, -⟩ := h
  exact M3.ext' (V3.ext' h1 h2 h3) (V3.ext' h4 h5 h6) (V3.ext' h7 h8 h9)
theorem V3.l_inj {p q : V3} (h : p.l = q.l) : p = q := by
  unfold V3.l at h
  simp only [List.cons.injEq] at h
  obtain ⟨h1, h2, h3, -⟩ := h
  exact V3.ext' h1 h2 h3
theorem lowT_scale {k n : Int} (hk : 0 < k) (hn : 0 < n) (m : M3) : k * n / gT (k * n) (m.sm k) = n / gT n m ∧ (m.sm k).ov (gT (k * n) (m.sm k)) = m.ov (gT n m) := by
  have h := low_scale hk (l := n :: m.l) (gT_pos m hn)
  have e : (n :: m.l).map (fun x => k * x) = (k * n) :: (m.sm k).l := rfl
  rw [e, ← lowT_l, ← lowT_l] at h
  exact ⟨(List.cons.inj h).1, M3.l_inj (List.cons.inj h).2⟩
theorem lowV_scale {k n : Int} (hk : 0 < k) (hn : 0 < n) (m : V3) : k * n / gV (k * n) (m.sm k) = n / gV n m ∧ (m.sm k).ov (gV (k * n) (m.sm k)) = m.ov (gV n m) := by
  have h := low_scale hk (l := n :: m.l) (gV_pos m hn)
  have e : (n :: m.l).map (fun x => k * x) = (k * n) :: (m.sm k).l := rfl
  rw [e, ← lowV_l, ← lowV_l] at h
  exact ⟨(List.cons.inj h).1, V3.l_inj (List.cons.inj h).2⟩
theorem lowT_back {n : Int} (hn : 0 < n) (m : M3) : gT n m * (n / gT n m) = n ∧ (m.ov (gT n m)).sm (gT n m) = m := by
  have h := mul_low (l := n :: m.l) (gT_pos m hn)
  have e : (lowL (n :: m.l)).map (fun x => gcdL (n :: m.l) * x) = (gT n m * (n / gT n m)) :: ((m.ov (gT n m)).sm (gT n m)).l := rfl
  rw [e] at h
  exact ⟨(List.cons.inj h).1, M3.l_inj (List.cons.inj h).2⟩
theorem lowV_back {n : Int} (hn : 0 < n) (m : V3) : gV n m * (n / gV n m) = n ∧ (m.ov (gV n m)).sm (gV n m) = m := by
  have h := mul_low (l := n :: m.l) (gV_pos m hn)
  have e : (lowL (n :: m.l)).map (fun x => gcdL (n :: m.l) * x) = (gV n m * (n / gV n m)) :: ((m.ov (gV n m)).sm (gV n m)).l := rfl
  rw [e] at h
  exact ⟨(List.cons.inj h).1, V3.l_inj (List.cons.inj h).2⟩
theorem lowT_gcd {n : Int} (hn : 0 < n) (m : M3) : gT (n / gT n m) (m.ov (gT n m)) = 1 := by
  have := gcdL_low (l := n :: m.l) (gT_pos m hn)
  rwa [← lowT_l] at this
theorem lowV_gcd {n : Int} (hn : 0 < n) (m : V3) : gV (n / gV n m) (m.ov (gV n m)) = 1 := by
  have := gcdL_low (l := n :: m.l) (gV_pos m hn)
  rwa [← lowV_l] at this
theorem low_pos {g n : Int} (hn : 0 < n) (hg : 0 < g) (hd : g * (n / g) = n) : 0 < n / g := by
  by_cases h : 0 < n / g
  · exact h
  · have : g * (n / g) ≤ 0 := Int.mul_nonpos_of_nonneg_of_nonpos (by omega) (by omega)
    omega
theorem lowT_pos {n : Int} (hn : 0 < n) (m : M3) : 0 < n / gT n m := low_pos hn (gT_pos m hn) (lowT_back hn m).1
theorem lowV_pos {n : Int} (hn : 0 < n) (m : V3) : 0 < n / gV n m := low_pos hn (gV_pos m hn) (lowV_back hn m).1
theorem M3.sm_sm (a b : Int) (m : M3) : (m.sm a).sm b = m.sm (b * a) := by
  apply M3.ext' <;> apply V3.ext' <;> simp only [M3.sm, V3.sm] <;> grind
theorem V3.sm_sm (a b : Int) (m : V3) : (m.sm a).sm b = m.sm (b * a) := by
  apply V3.ext' <;> simp only [V3.sm] <;> grind
theorem lowT_cross {n : Int} (hn : 0 < n) (m : M3) : (m.ov (gT n m)).sm n = m.sm (n / gT n m) := by
  obtain ⟨h1, h2⟩ := lowT_back hn m
  generalize hg : gT n m = g at *
  generalize hk : n / g = k at *
  generalize hp : m.ov g = p at *
  rw [← h1, ← h2, M3.sm_sm, Int.mul_comm]
theorem lowV_cross {n : Int} (hn : 0 < n) (m : V3) : (m.ov (gV n m)).sm n = m.sm (n / gV n m) := by
  obtain ⟨h1, h2⟩ := lowV_back hn m
  generalize hg : gV n m = g at *
  generalize hk : n / g = k at *
  generalize hp : m.ov g = p at *
  rw [← h1, ← h2, V3.sm_sm, Int.mul_comm]
/-- what stands for the same has the same lowest terms -/
theorem lowV_eq {n k : Int} {v w : V3} (hn : 0 < n) (hk : 0 < k) (h : v.sm k = w.sm n) : n / gV n v = k / gV k w ∧ v.ov (gV n v) = w.ov (gV k w) := by
  obtain ⟨a1, a2⟩ := lowV_scale hk hn v
  obtain ⟨b1, b2⟩ := lowV_scale hn hk w
  rw [Int.mul_comm k n, h] at a1 a2
  rw [← a1, ← b1, ← a2, ← b2]
  exact ⟨rfl, rfl⟩
theorem lowT_eq {n k : Int} {v w : M3} (hn : 0 < n) (hk : 0 < k) (h : v.sm k = w.sm n) : n / gT n v = k / gT k w ∧ v.ov (gT n v) = w.ov (gT k w) := by
  obtain ⟨a1, a2⟩ := lowT_scale hk hn v
  obtain ⟨b1, b2⟩ := lowT_scale hn hk w
  rw [Int.mul_comm k n, h] at a1 a2
  rw [← a1, ← b1, ← a2, ← b2]
  exact ⟨rfl, rfl⟩
theorem V3.sm_inj {k : Int} (hk : 0 < k) {v w : V3} (h : v.sm k = w.sm k) : v = w := by
  have h1 := congrArg V3.x h
  have h2 := congrArg V3.y h
  have h3 := congrArg V3.z h
  exact V3.ext' (Int.eq_of_mul_eq_mul_left (by omega) h1) (Int.eq_of_mul_eq_mul_left (by omega) h2) (Int.eq_of_mul_eq_mul_left (by omega) h3)
theorem M3.sm_inj {k : Int} (hk : 0 < k) {v w : M3} (h : v.sm k = w.sm k) : v = w := by
  have h1 := congrArg M3.a h
  have h2 := congrArg M3.b h
  have h3 := congrArg M3.c h
  exact M3.ext' (V3.sm_inj hk h1) (V3.sm_inj hk h2) (V3.sm_inj hk h3)
theorem place_comp {n1 n2 g k ga a gb b : Int} {m1 m2 P : M3} {v w x : V3} (g0 : 0 < g) (ga0 : 0 < ga) (gb0 : 0 < gb) (h1 : g * k = n1 * n2) (h2 : P.sm g = m2.mul m1) (h3 : ga * a = n1) (h4 : w.sm ga = m1.app v) (h5 : gb * b = n2) (h6 : x.sm gb = m2.app w) :
    (P.app v).sm (b * a) = x.sm k := by
  apply V3.sm_inj (Int.mul_pos g0 (Int.mul_pos ga0 gb0))
  have l : ((P.app v).sm (b * a)).sm (g * (ga * gb)) = (m2.app (m1.app v)).sm (n1 * n2) := by
    have e : g * (ga * gb) * (b * a) = n1 * n2 * g := by rw [← h3, ← h5]; grind
    rw [V3.sm_sm, e, ← V3.sm_sm, ← M3.sm_app, h2, M3.app_mul]
  have r : (x.sm k).sm (g * (ga * gb)) = (m2.app (m1.app v)).sm (n1 * n2) := by
    have e : g * (ga * gb) * k = n1 * n2 * ga * gb := by rw [← h1]; grind
    rw [V3.sm_sm, e, ← V3.sm_sm, h6, ← V3.sm_sm, ← M3.app_sm, h4]
  rw [l, r]
theorem assoc_comp {n1 n2 n3 g k g' k' : Int} {m1 m2 m3 P P' : M3} (g0 : 0 < g) (g1 : 0 < g') (h1 : g * k = n1 * n2) (h2 : P.sm g = m2.mul m1) (h3 : g' * k' = n2 * n3) (h4 : P'.sm g' = m3.mul m2) :
    (m3.mul P).sm (n1 * k') = (P'.mul m1).sm (k * n3) := by
  apply M3.sm_inj (Int.mul_pos g0 g1)
  have l : ((m3.mul P).sm (n1 * k')).sm (g * g') = (m3.mul (m2.mul m1)).sm (n1 * (n2 * n3)) := by
    have e : g * g' * (n1 * k') = n1 * (n2 * n3) * g := by rw [← h3]; grind
    rw [M3.sm_sm, e, ← M3.sm_sm, ← M3.mul_sm, h2]
  have r : ((P'.mul m1).sm (k * n3)).sm (g * g') = (m3.mul (m2.mul m1)).sm (n1 * (n2 * n3)) := by
    have e : g * g' * (k * n3) = n1 * (n2 * n3) * g' := by
      have : g * g' * (k * n3) = (g * k) * n3 * g' := by grind
      rw [this, h1]
      grind
    rw [M3.sm_sm, e, ← M3.sm_sm, ← M3.sm_mul, h4, M3.mul_assoc]
  rw [l, r]
/-! as data -/
theorem flat_tp (v : V3) : D.flat v.tp = true := by simp only [V3.tp, D.flat, D.flats, Bool.and_self]
theorem flat_mtp (m : M3) : D.flat m.tp = true := by simp only [M3.tp, flat_tup, flats_c, flats_n, flat_tp, Bool.and_self]
theorem sh_tp (n : Nat) (v : V3) : D.sh (n + 1) v.tp = true := by simp only [V3.tp, sh_tup, shs_cons, shs_nil, sh_int, Bool.and_self]
theorem sh_mtp (n : Nat) (m : M3) : D.sh (n + 2) m.tp = true := by simp only [M3.tp, sh_tup, shs_cons, shs_nil, sh_tp, Bool.and_self]
theorem eqv_tp (v w : V3) : D.eqv v.tp w.tp = decide (v = w) := by
  have e : (v = w) = (v.x = w.x ∧ v.y = w.y ∧ v.z = w.z) := propext ⟨fun h => by subst h; exact ⟨rfl, rfl, rfl⟩, fun h => V3.ext' h.1 h.2.1 h.2.2⟩
  simp only [V3.tp, eqv_tup, eqvs_cons, eqvs_nil, eqv_int, Bool.and_true, e, Bool.decide_and]
theorem eqv_mtp (v w : M3) : D.eqv v.tp w.tp = decide (v = w) := by
  have e : (v = w) = (v.a = w.a ∧ v.b = w.b ∧ v.c = w.c) := propext ⟨fun h => by subst h; exact ⟨rfl, rfl, rfl⟩, fun h => M3.ext' h.1 h.2.1 h.2.2⟩
  simp only [M3.tp, eqv_tup, eqvs_cons, eqvs_nil, eqv_tp, Bool.and_true, e, Bool.decide_and]
theorem mk_tp (a b c : Int) : D.tup [.int a, .int b, .int c] = V3.tp ⟨a, b, c⟩ := rfl
theorem mk_mtp (a b c : V3) : D.tup [a.tp, b.tp, c.tp] = M3.tp ⟨a, b, c⟩ := rfl
theorem seqD_tp (q : V3) : seqD q.tp = some (.ok [.int q.x, .int q.y, .int q.z] true) := rfl
theorem seqD_mtp (q : M3) : seqD q.tp = some (.ok [q.a.tp, q.b.tp, q.c.tp] true) := rfl
theorem sqD_tp (q : V3) : sqD q.tp = some [.int q.x, .int q.y, .int q.z] := rfl
theorem sqD_ls (q : V3) : sqD q.ls = some [.int q.x, .int q.y, .int q.z] := rfl
theorem sqD_mtp (q : M3) : sqD q.tp = some [q.a.tp, q.b.tp, q.c.tp] := rfl
theorem sqD_mls (q : M3) : sqD q.ls = some [q.a.ls, q.b.ls, q.c.ls] := rfl
theorem len_tp (q : V3) : lenC [q.tp] = some (.v (.int 3)) := rfl
theorem len_mtp (q : M3) : lenC [q.tp] = some (.v (.int 3)) := rfl
theorem isTup_tp (q : V3) : isTupD q.tp = some true := rfl
theorem isTup_mtp (q : M3) : isTupD q.tp = some true := rfl
theorem ix_tp (q : V3) (i : Int) : ixD q.tp (.int i) = (atI [D.int q.x, .int q.y, .int q.z] i).map .v := rfl
theorem ix_mtp (q : M3) (i : Int) : ixD q.tp (.int i) = (atI [q.a.tp, q.b.tp, q.c.tp] i).map .v := rfl
theorem list_tp (q : V3) : listC [q.tp] = some (.n (.lst [.int q.x, .int q.y, .int q.z])) := rfl
theorem tuple_tp (q : V3) : tupleC [q.tp] = some (.v q.tp) := rfl
theorem tgTp (is : List Nat) (q : V3) (env : En) : (Tg.tu is).set q.tp env = setAll is [.int q.x, .int q.y, .int q.z] env := rfl
theorem seqD_ls (q : V3) : seqD q.ls = some (.ok [.int q.x, .int q.y, .int q.z] true) := rfl
theorem seqD_mls (q : M3) : seqD q.ls = some (.ok [q.a.ls, q.b.ls, q.c.ls] true) := rfl
theorem ix_ls (q : V3) (i : Int) : ixD q.ls (.int i) = (atI [D.int q.x, .int q.y, .int q.z] i).map .v := rfl
theorem ix_mls (q : M3) (i : Int) : ixD q.ls (.int i) = (atI [q.a.ls, q.b.ls, q.c.ls] i).map .v := rfl
theorem sum_ls (v : V3) : sumC [v.ls] = some (.v (.int (v.x + v.y + v.z))) := by
  show some (Vn.v (D.int [v.x, v.y, v.z].sum)) = _
  rw [List.sum_cons, List.sum_cons, List.sum_cons, List.sum_nil, Int.add_zero, Int.add_assoc]
theorem tuple_ls (q : V3) : tupleC [q.ls] = some (.v q.tp) := rfl
theorem mk_ls (a b c : Int) : D.lst [.int a, .int b, .int c] = V3.ls ⟨a, b, c⟩ := rfl
theorem mk_mls (a b c : V3) : D.lst [a.ls, b.ls, c.ls] = M3.ls ⟨a, b, c⟩ := rfl
theorem flat_ls (v : V3) : D.flat v.ls = false := by simp only [V3.ls, D.flat]
theorem flat_mls (m : M3) : D.flat m.ls = false := by simp only [M3.ls, D.flat]
theorem isLR_ls (q : V3) : isLR (some (.own q.ls)) = true := rfl
theorem onR_ls (q : V3) (i : Nat) (env : En) (k : List D → Option (List D)) : onR (some (.own q.ls)) i env k = (k [.int q.x, .int q.y, .int q.z]).map fun l' => .nx (env.set i (.own (.lst l'))) := rfl
theorem flatN_ls (q : V3) : D.flatN q.ls = true := by simp only [V3.ls, D.flatN, D.flats, D.flat, Bool.and_self]
theorem eqD_tp (v w : V3) : eqD v.tp w.tp = some (.v (.bl (decide (v = w)))) := by
  unfold eqD
  rw [sh_tp, sh_tp, eqv_tp]
  rfl
theorem neD_tp (v w : V3) : neD v.tp w.tp = some (.v (.bl (!decide (v = w)))) := by
  unfold neD
  rw [sh_tp, sh_tp, eqv_tp]
  rfl
theorem eqD_mtp (v w : M3) : eqD v.tp w.tp = some (.v (.bl (decide (v = w)))) := by
  unfold eqD
  rw [sh_mtp, sh_mtp, eqv_mtp]
  rfl
theorem neD_mtp (v w : M3) : neD v.tp w.tp = some (.v (.bl (!decide (v = w)))) := by
  unfold neD
  rw [sh_mtp, sh_mtp, eqv_mtp]
  rfl
theorem isNot_tp (q : V3) : isNotD q.tp .non = some (.v (.bl true)) := rfl
theorem is_tp (q : V3) : isD q.tp .non = some (.v (.bl false)) := rfl
theorem eqD_tab (n k : Int) (m p : M3) : eqD (tab n m) (tab k p) = some (.v (.bl (decide (n = k) && decide (m = p)))) := by
  unfold tab
  rw [eqD_tt]
  simp only [shs_cons, shs_nil, sh_int, sh_mtp, Bool.and_self, if_true, eqvs_cons, eqvs_nil, eqv_int, eqv_mtp, Bool.and_true]
theorem neD_tab (n k : Int) (m p : M3) : neD (tab n m) (tab k p) = some (.v (.bl (!(decide (n = k) && decide (m = p))))) := by
  unfold tab
  rw [neD_tt]
  simp only [shs_cons, shs_nil, sh_int, sh_mtp, Bool.and_self, if_true, eqvs_cons, eqvs_nil, eqv_int, eqv_mtp, Bool.and_true]
end HD

set_option Elab.async false
set_option linter.all false
set_option maxRecDepth 100000
/-! Tn: numbers of turns as told, their tables -/
namespace HD
open PySem L2
theorem fdivD_ex {x j : Int} {n : Nat} [b : SzC j n] (h0 : j ≠ 0) (hd : j ∣ x) (h : n ≤ 8999) : fdivD (.int x) (.int j) = some (.v (.int (x / j))) := by
  have h3 := log2_le_of (x := j)
  show (if decide (j ≠ 0 ∧ j.natAbs.log2 < 9000) = true then _ else _) = _
  rw [if_pos (decide_eq_true ⟨h0, by omega⟩), Int.fdiv_eq_ediv_of_dvd hd]
def Q.l (q : Q) : List Int := [q.a, q.b, q.c, q.d]
def gQ (q : Q) : Int := gcdL q.l
def fstQ (q : Q) : Int := if q.a ≠ 0 then q.a else if q.b ≠ 0 then q.b else if q.c ≠ 0 then q.c else q.d
def byQ (q : Q) : Int := if fstQ q < 0 then 0 - gQ q else gQ q
def toldQ (q : Q) : Q := q.ov (byQ q)
theorem fst_ne {q : Q} (h : ¬ q = ⟨0, 0, 0, 0⟩) : fstQ q ≠ 0 := by
  unfold fstQ
  split
  · assumption
  · split
    · assumption
    · split
      · assumption
      · intro hd
        apply h
        apply Q.ext' <;> simp only <;> omega
theorem fst_mem (q : Q) : fstQ q ∈ q.l := by
  unfold fstQ Q.l
  split
  · simp
  · split
    · simp
    · split <;> simp
theorem gQ_pos {q : Q} (h : ¬ q = ⟨0, 0, 0, 0⟩) : 0 < gQ q := gcdL_pos (fst_mem q) (fst_ne h)
theorem by_ne {q : Q} (h : ¬ q = ⟨0, 0, 0, 0⟩) : byQ q ≠ 0 := by
  have := gQ_pos h
  unfold byQ
  split <;> omega
theorem by_dvd (q : Q) {x : Int} (h : x ∈ q.l) : byQ q ∣ x := by
  have h1 := gcdL_dvd h
  unfold byQ gQ
  split
  · rw [Int.zero_sub]
    exact Int.neg_dvd.2 h1
  · exact h1
theorem told_back (q : Q) : (toldQ q).smul (byQ q) = q := by
  have e : ∀ x ∈ q.l, byQ q * (x / byQ q) = x := fun x h => Int.mul_ediv_cancel' (by_dvd q h)
  unfold toldQ Q.ov Q.smul
  exact Q.ext' (e _ (by simp [Q.l])) (e _ (by simp [Q.l])) (e _ (by simp [Q.l])) (e _ (by simp [Q.l]))
theorem told_ne {q : Q} (h : ¬ q = ⟨0, 0, 0, 0⟩) : ¬ toldQ q = ⟨0, 0, 0, 0⟩ := fun e => h (by
  rw [← told_back q, e]
  apply Q.ext' <;> simp only [Q.smul, Int.mul_zero])
theorem smul_ne {k : Int} (hk : k ≠ 0) {q : Q} (h : ¬ q = ⟨0, 0, 0, 0⟩) : ¬ q.smul k = ⟨0, 0, 0, 0⟩ := fun e => h (smul_inj hk (e.trans (by apply Q.ext' <;> simp only [Q.smul, Int.mul_zero])))
theorem fst_smul {k : Int} (hk : k ≠ 0) (q : Q) : fstQ (q.smul k) = k * fstQ q := by
  have e : ∀ x : Int, k * x ≠ 0 ↔ x ≠ 0 := fun x => by
    constructor
    · intro h e
      exact h (by rw [e, Int.mul_zero])
    · intro h e
      rcases Int.mul_eq_zero.1 e with h1 | h1
      · exact hk h1
      · exact h h1
  unfold fstQ Q.smul
  simp only [e]
  split
  · rfl
  · split
    · rfl
    · split <;> rfl
theorem gQ_smul {k : Int} (q : Q) : gQ (q.smul k) = (k.natAbs : Int) * gQ q := by
  have h := gcdL_scale k.natAbs q.l
  have e : gcdL (q.l.map fun x => (k.natAbs : Int) * x) = gQ (q.smul k) := by
    unfold gQ gcdL gcdN Q.l Q.smul
    simp only [List.map_cons, List.map_nil, List.foldl_cons, List.foldl_nil, Int.natAbs_mul, Int.natAbs_natCast]
  rw [← e, h]
  rfl
theorem by_smul {k : Int} (hk : k ≠ 0) {q : Q} (h : ¬ q = ⟨0, 0, 0, 0⟩) : byQ (q.smul k) = k * byQ q := by
  have h1 := fst_ne h
  unfold byQ
  rw [fst_smul hk, gQ_smul]
  rcases Int.lt_or_gt_of_ne hk with hk1 | hk1
  · have e1 : (k.natAbs : Int) = -k := by omega
    rw [e1]
    by_cases hf : fstQ q < 0
    · have : 0 < k * fstQ q := Int.mul_pos_of_neg_of_neg hk1 hf
      rw [if_neg (by omega), if_pos hf]
      grind
    · have : k * fstQ q < 0 := Int.mul_neg_of_neg_of_pos hk1 (by omega)
      rw [if_pos this, if_neg hf]
      grind
  · have e1 : (k.natAbs : Int) = k := by omega
    rw [e1]
    by_cases hf : fstQ q < 0
    · have : k * fstQ q < 0 := Int.mul_neg_of_pos_of_neg hk1 hf
      rw [if_pos this, if_pos hf]
      grind
    · have : 0 < k * fstQ q := Int.mul_pos hk1 (by omega)
      rw [if_neg (by omega), if_neg hf]
theorem smul_smul (a b : Int) (q : Q) : (q.smul a).smul b = q.smul (b * a) := by
  apply Q.ext' <;> simp only [Q.smul] <;> grind
theorem told_smul {k : Int} (hk : k ≠ 0) {q : Q} (h : ¬ q = ⟨0, 0, 0, 0⟩) : toldQ (q.smul k) = toldQ q := by
  have h1 := told_back (q.smul k)
  rw [by_smul hk h] at h1
  have h2 : (toldQ q).smul (k * byQ q) = q.smul k := by
    rw [← smul_smul, told_back]
  exact smul_inj (fun e => by
    rcases Int.mul_eq_zero.1 e with e | e
    · exact hk e
    · exact by_ne h e) (h1.trans h2.symm)
theorem told_told {q : Q} (h : ¬ q = ⟨0, 0, 0, 0⟩) : toldQ (toldQ q) = toldQ q := by
  have := told_smul (by_ne h) (told_ne h)
  rw [told_back] at this
  exact this.symm
/-- multiples of one another are told alike -/
theorem told_eq {p q : Q} {k m : Int} (hp : ¬ p = ⟨0, 0, 0, 0⟩) (hq : ¬ q = ⟨0, 0, 0, 0⟩) (hk : k ≠ 0) (hm : m ≠ 0) (h : p.smul k = q.smul m) : toldQ p = toldQ q := by
  rw [← told_smul hk hp, h, told_smul hm hq]
theorem mul_smul (k : Int) (p q : Q) : p.mul (q.smul k) = (p.mul q).smul k := by
  apply Q.ext' <;> simp only [Q.mul, Q.smul] <;> grind
theorem smul_mul (k : Int) (p q : Q) : (p.smul k).mul q = (p.mul q).smul k := by
  apply Q.ext' <;> simp only [Q.mul, Q.smul] <;> grind
theorem bar_smul (k : Int) (p : Q) : (p.smul k).bar = p.bar.smul k := by
  apply Q.ext' <;> simp only [Q.bar, Q.smul] <;> grind
theorem mul_ne {p q : Q} (hp : ¬ p = ⟨0, 0, 0, 0⟩) (hq : ¬ q = ⟨0, 0, 0, 0⟩) : ¬ p.mul q = ⟨0, 0, 0, 0⟩ := fun e => by
  have h := Q.mul_sq p q
  rw [e] at h
  have h0 : Q.sq ⟨0, 0, 0, 0⟩ = 0 := by decide
  rw [h0] at h
  rcases Int.mul_eq_zero.1 h.symm with h | h
  · exact hp (Q.sq_zero (by omega))
  · exact hq (Q.sq_zero (by omega))
theorem bar_ne' {q : Q} (h : ¬ q = ⟨0, 0, 0, 0⟩) : ¬ q.bar = ⟨0, 0, 0, 0⟩ := bar_ne h
theorem sq_pos {q : Q} (h : ¬ q = ⟨0, 0, 0, 0⟩) : 0 < q.sq := by
  have h1 := q.sq_nonneg
  have h2 : q.sq ≠ 0 := fun e => h (Q.sq_zero (by omega))
  omega
theorem told_mul {p q : Q} (hp : ¬ p = ⟨0, 0, 0, 0⟩) (hq : ¬ q = ⟨0, 0, 0, 0⟩) : toldQ ((toldQ p).mul (toldQ q)) = toldQ (p.mul q) := by
  refine (told_smul (k := byQ p * byQ q) (fun e => ?_) (mul_ne (told_ne hp) (told_ne hq))).symm.trans ?_
  · rcases Int.mul_eq_zero.1 e with e | e
    · exact by_ne hp e
    · exact by_ne hq e
  · rw [← smul_smul, ← mul_smul, ← smul_mul, told_back, told_back]
theorem told_bar {q : Q} (h : ¬ q = ⟨0, 0, 0, 0⟩) : toldQ (toldQ q).bar = toldQ q.bar := by
  refine (told_smul (k := byQ q) (by_ne h) (bar_ne' (told_ne h))).symm.trans ?_
  rw [← bar_smul, told_back]
instance told_qc {q : Q} {n : Nat} [h : QC q n] : QC (toldQ q) n := by
  have e : ∀ x : Int, SzC x n → SzC (x / byQ q) n := fun x hx => ⟨Nat.lt_of_le_of_lt (Int.natAbs_ediv_le_natAbs x _) hx.lt⟩
  exact ⟨e _ h.a, e _ h.b, e _ h.c, e _ h.d⟩
theorem by_sz {q : Q} {n : Nat} (h : ¬ q = ⟨0, 0, 0, 0⟩) [hq : QC q n] : SzC (byQ q) n := by
  have h1 : byQ q ∣ fstQ q := by_dvd q (fst_mem q)
  have h2 := fst_ne h
  have h3 : (byQ q).natAbs ≤ (fstQ q).natAbs := Nat.le_of_dvd (by omega) (Int.natAbs_dvd_natAbs.2 h1)
  have h4 : SzC (fstQ q) n := by
    unfold fstQ
    split
    · exact hq.a
    · split
      · exact hq.b
      · split
        · exact hq.c
        · exact hq.d
  exact ⟨Nat.lt_of_le_of_lt h3 h4.lt⟩
/-! ### the table of a turn -/
def rotM (q : Q) : M3 := ⟨⟨q.a * q.a + q.b * q.b - q.c * q.c - q.d * q.d, 2 * q.b * q.c - 2 * q.a * q.d, 2 * q.b * q.d + 2 * q.a * q.c⟩,
  ⟨2 * q.b * q.c + 2 * q.a * q.d, q.a * q.a - q.b * q.b + q.c * q.c - q.d * q.d, 2 * q.c * q.d - 2 * q.a * q.b⟩,
  ⟨2 * q.b * q.d - 2 * q.a * q.c, 2 * q.c * q.d + 2 * q.a * q.b, q.a * q.a - q.b * q.b - q.c * q.c + q.d * q.d⟩⟩
instance rot_mc {q : Q} {n : Nat} [h : QC q n] : MC (rotM q) (n + n + 10) := by
  have two : SzC (2 : Int) 2 := ⟨by decide⟩
  unfold rotM
  have e1 : ∀ x y : Int, SzC x n → SzC y n → SzC (x * y) (n + n) := fun x y hx hy => inferInstance
  have e2 : ∀ x y : Int, SzC x n → SzC y n → SzC (2 * x * y) (n + n + 2) := fun x y hx hy => SzC.mono (inferInstance : SzC (2 * x * y) (2 + n + n)) (by omega)
  have ad : ∀ (x y : Int) (a b : Nat), SzC x a → SzC y b → SzC (x + y) (max a b + 1) := fun x y a b hx hy => inferInstance
  have sb : ∀ (x y : Int) (a b : Nat), SzC x a → SzC y b → SzC (x - y) (max a b + 1) := fun x y a b hx hy => inferInstance
  have A := e1 _ _ h.a h.a
  have B := e1 _ _ h.b h.b
  have C := e1 _ _ h.c h.c
  have D := e1 _ _ h.d h.d
  exact ⟨⟨(sb _ _ _ _ (sb _ _ _ _ (ad _ _ _ _ A B) C) D).mono (by omega), (sb _ _ _ _ (e2 _ _ h.b h.c) (e2 _ _ h.a h.d)).mono (by omega), (ad _ _ _ _ (e2 _ _ h.b h.d) (e2 _ _ h.a h.c)).mono (by omega)⟩,
    ⟨(ad _ _ _ _ (e2 _ _ h.b h.c) (e2 _ _ h.a h.d)).mono (by omega), (sb _ _ _ _ (ad _ _ _ _ (sb _ _ _ _ A B) C) D).mono (by omega), (sb _ _ _ _ (e2 _ _ h.c h.d) (e2 _ _ h.a h.b)).mono (by omega)⟩,
    ⟨(sb _ _ _ _ (e2 _ _ h.b h.d) (e2 _ _ h.a h.c)).mono (by omega), (ad _ _ _ _ (e2 _ _ h.c h.d) (e2 _ _ h.a h.b)).mono (by omega), (ad _ _ _ _ (sb _ _ _ _ (sb _ _ _ _ A B) C) D).mono (by omega)⟩⟩
theorem rot_smul (k : Int) (q : Q) : rotM (q.smul k) = (rotM q).sm (k * k) := by
  apply M3.ext' <;> apply V3.ext' <;> simp only [rotM, Q.smul, M3.sm, V3.sm] <;> grind
theorem rot_mul (p q : Q) : rotM (p.mul q) = (rotM p).mul (rotM q) := by
  apply M3.ext' <;> apply V3.ext' <;> simp only [rotM, Q.mul, M3.mul, M3.app, M3.col, V3.dot] <;> grind
theorem rot_num (n : Int) : rotM ⟨n, 0, 0, 0⟩ = M3.one.sm (n * n) := by
  apply M3.ext' <;> apply V3.ext' <;> simp only [rotM, M3.sm, V3.sm, M3.one] <;> grind
def lowT (n : Int) (m : M3) : D := tab (n / gT n m) (m.ov (gT n m))
def lowV (n : Int) (v : V3) : D := .tup [.int (n / gV n v), (v.ov (gV n v)).tp]
/-- the table -/
def tabQ (q : Q) : D := lowT q.sq (rotM q)
theorem lowT_scl {k n : Int} (hk : 0 < k) (hn : 0 < n) (m : M3) : lowT (k * n) (m.sm k) = lowT n m := by
  unfold lowT
  obtain ⟨h1, h2⟩ := lowT_scale hk hn m
  rw [h1, h2]
theorem lowV_scl {k n : Int} (hk : 0 < k) (hn : 0 < n) (m : V3) : lowV (k * n) (m.sm k) = lowV n m := by
  unfold lowV
  obtain ⟨h1, h2⟩ := lowV_scale hk hn m
  rw [h1, h2]
theorem kk_pos {k : Int} (hk : k ≠ 0) : 0 < k * k := by
  have := sq_nn k
  have h2 : k * k ≠ 0 := fun e => by rcases Int.mul_eq_zero.1 e with h | h <;> exact hk h
  omega
theorem tab_smul {k : Int} (hk : k ≠ 0) {q : Q} (h : ¬ q = ⟨0, 0, 0, 0⟩) : tabQ (q.smul k) = tabQ q := by
  unfold tabQ
  rw [smul_sq, rot_smul, lowT_scl (kk_pos hk) (sq_pos h)]
theorem tab_told {q : Q} (h : ¬ q = ⟨0, 0, 0, 0⟩) : tabQ (toldQ q) = tabQ q := by
  have := tab_smul (by_ne h) (told_ne h)
  rw [told_back] at this
  exact this.symm
/-- a spot's place by a turn -/
def plQ (q : Q) (v : V3) : D := lowV q.sq ((rotM q).app v)
theorem pl_smul {k : Int} (hk : k ≠ 0) {q : Q} (h : ¬ q = ⟨0, 0, 0, 0⟩) (v : V3) : plQ (q.smul k) v = plQ q v := by
  unfold plQ
  rw [smul_sq, rot_smul, M3.sm_app, lowV_scl (kk_pos hk) (sq_pos h)]
theorem lowV_low {n : Int} (hn : 0 < n) (m : M3) (v : V3) : lowV (n / gT n m) ((m.ov (gT n m)).app v) = lowV n (m.app v) := by
  obtain ⟨h1, h2⟩ := lowT_back hn m
  have h := lowV_scl (gT_pos m hn) (lowT_pos hn m) ((m.ov (gT n m)).app v)
  rw [h1, ← M3.sm_app, h2] at h
  exact h.symm
theorem lowV_one (v : V3) : lowV 1 v = .tup [.int 1, v.tp] := by
  have e : gV 1 v = 1 := by
    have h1 := gV_pos (n := 1) v (by decide)
    have h2 := gcdL_le (l := 1 :: v.l) (x := 1) (List.mem_cons_self ..) (by decide)
    unfold gV at *
    omega
  unfold lowV V3.ov
  rw [e]
  simp only [Int.ediv_one]
/-! as data -/
theorem eq_tabQ (q : Q) : eqD (tabQ q) (tabQ q) = some (.v (.bl true)) := (eqD_tab _ _ _ _).trans (by rw [decide_eq_true rfl, decide_eq_true rfl]; rfl)
theorem ne_tabQ (q : Q) : neD (tabQ q) (tabQ q) = some (.v (.bl false)) := (neD_tab _ _ _ _).trans (by rw [decide_eq_true rfl, decide_eq_true rfl]; rfl)
theorem flat_tab (n : Int) (m : M3) : D.flat (tab n m) = true := by simp only [tab, flat_tup, flats_c, flats_n, flat_int, flat_mtp, Bool.and_self]
theorem flat_tabQ (q : Q) : D.flat (tabQ q) = true := flat_tab _ _
theorem flat_lowV (n : Int) (v : V3) : D.flat (lowV n v) = true := by simp only [lowV, flat_tup, flats_c, flats_n, flat_int, flat_tp, Bool.and_self]
theorem flat_plQ (q : Q) (v : V3) : D.flat (plQ q v) = true := flat_lowV _ _
theorem isNot_bb (a b : Bool) : isNotD (.bl a) (.bl b) = some (.v (.bl (!(a == b)))) := by cases a <;> cases b <;> rfl
theorem is_bb (a b : Bool) : isD (.bl a) (.bl b) = some (.v (.bl (a == b))) := by cases a <;> cases b <;> rfl
end HD

set_option Elab.async false
set_option linter.all false
set_option maxRecDepth 100000
/-! Co: corner numbers, spots that stay whole -/
namespace HD
open PySem L2
theorem dvd_gcdN {d : Nat} : ∀ (l : List Int) (g : Nat), d ∣ g → (∀ x ∈ l, d ∣ x.natAbs) → d ∣ gcdN l g
  | [], g, h, _ => h
  | x :: l, g, h, hl => dvd_gcdN l _ (Nat.dvd_gcd h (hl x (List.mem_cons_self ..))) fun y hy => hl y (List.mem_cons_of_mem _ hy)
theorem dvd_gcdL {d : Int} {l : List Int} (h : ∀ x ∈ l, d ∣ x) : d ∣ gcdL l := by
  have := dvd_gcdN (d := d.natAbs) l 0 (Nat.dvd_zero _) fun x hx => Int.natAbs_dvd_natAbs.2 (h x hx)
  exact Int.natAbs_dvd_natAbs.1 this
theorem gQ_told {q : Q} (h : ¬ q = ⟨0, 0, 0, 0⟩) : gQ (toldQ q) = 1 := by
  have h1 := gQ_smul (k := byQ q) (toldQ q)
  rw [told_back] at h1
  have h2 : ((byQ q).natAbs : Int) = gQ q := by
    have := gQ_pos h
    unfold byQ
    split <;> omega
  rw [h2] at h1
  have h3 : gQ q * 1 = gQ q * gQ (toldQ q) := by omega
  exact (Int.eq_of_mul_eq_mul_left (by have := gQ_pos h; omega) h3).symm
theorem dvd_scaled {q : Q} (h : gQ q = 1) {g k : Int} (hg : ∀ x ∈ q.l, g ∣ k * x) : g ∣ k := by
  have h1 : g ∣ gQ (q.smul k) := dvd_gcdL fun x hx => by
    have : x ∈ q.l.map (fun x => k * x) := hx
    obtain ⟨y, hy, rfl⟩ := List.mem_map.1 this
    exact hg y hy
  rw [gQ_smul, h] at h1
  exact Int.dvd_natAbs.1 (by simpa using h1)
/-- the corner number -/
def crQ (q : Q) : Int := q.sq / gT q.sq (rotM q)
theorem sq_even {a : Int} (h : a % 2 = 0) : a * a % 4 = 0 := by
  obtain ⟨k, rfl⟩ : ∃ k, a = 2 * k := ⟨a / 2, by omega⟩
  have : 2 * k * (2 * k) = 4 * (k * k) := by grind
  omega
theorem sq_odd8 {a : Int} (h : a % 2 = 1) : a * a % 8 = 1 := by
  obtain ⟨k, rfl⟩ : ∃ k, a = 2 * k + 1 := ⟨a / 2, by omega⟩
  have e : (2 * k + 1) * (2 * k + 1) = 4 * (k * (k + 1)) + 1 := by grind
  have e2 : k * (k + 1) % 2 = 0 := by
    rcases (show k % 2 = 0 ∨ k % 2 = 1 by omega) with hk | hk
    · rw [Int.mul_emod, hk, Int.zero_mul]; rfl
    · have : (k + 1) % 2 = 0 := by omega
      rw [Int.mul_emod, this, Int.mul_zero]; rfl
  omega
theorem mul_odd {a b : Int} (h : a % 2 = 1) (h2 : b % 2 = 1) : a * b % 2 = 1 := by
  rw [Int.mul_emod, h, h2]
  rfl
theorem gT_dvd4 {q : Q} (h : gQ q = 1) : gT q.sq (rotM q) ∣ 4 := by
  generalize hg : gT q.sq (rotM q) = g
  have hm : ∀ x ∈ q.sq :: (rotM q).l, g ∣ x := fun x hx => hg ▸ gcdL_dvd hx
  have n0 : g ∣ q.sq := hm _ (by simp)
  have m11 := hm (rotM q).a.x (by simp [M3.l])
  have m12 := hm (rotM q).a.y (by simp [M3.l])
  have m13 := hm (rotM q).a.z (by simp [M3.l])
  have m21 := hm (rotM q).b.x (by simp [M3.l])
  have m22 := hm (rotM q).b.y (by simp [M3.l])
  have m23 := hm (rotM q).b.z (by simp [M3.l])
  have m31 := hm (rotM q).c.x (by simp [M3.l])
  have m32 := hm (rotM q).c.y (by simp [M3.l])
  have m33 := hm (rotM q).c.z (by simp [M3.l])
  have aa : g ∣ 4 * q.a * q.a := by
    have := Int.dvd_add (Int.dvd_add n0 m11) (Int.dvd_add m22 m33)
    have e : q.sq + (rotM q).a.x + ((rotM q).b.y + (rotM q).c.z) = 4 * q.a * q.a := by simp only [Q.sq, rotM]; grind
    rwa [e] at this
  have bb : g ∣ 4 * q.b * q.b := by
    have := Int.dvd_sub (Int.dvd_add n0 m11) (Int.dvd_add m22 m33)
    have e : q.sq + (rotM q).a.x - ((rotM q).b.y + (rotM q).c.z) = 4 * q.b * q.b := by simp only [Q.sq, rotM]; grind
    rwa [e] at this
  have cc : g ∣ 4 * q.c * q.c := by
    have := Int.dvd_sub (Int.dvd_add n0 m22) (Int.dvd_add m11 m33)
    have e : q.sq + (rotM q).b.y - ((rotM q).a.x + (rotM q).c.z) = 4 * q.c * q.c := by simp only [Q.sq, rotM]; grind
    rwa [e] at this
  have dd : g ∣ 4 * q.d * q.d := by
    have := Int.dvd_sub (Int.dvd_add n0 m33) (Int.dvd_add m11 m22)
    have e : q.sq + (rotM q).c.z - ((rotM q).a.x + (rotM q).b.y) = 4 * q.d * q.d := by simp only [Q.sq, rotM]; grind
    rwa [e] at this
  have bc : g ∣ 4 * q.b * q.c := by
    have := Int.dvd_add m12 m21
    have e : (rotM q).a.y + (rotM q).b.x = 4 * q.b * q.c := by simp only [rotM]; grind
    rwa [e] at this
  have ad : g ∣ 4 * q.a * q.d := by
    have := Int.dvd_sub m21 m12
    have e : (rotM q).b.x - (rotM q).a.y = 4 * q.a * q.d := by simp only [rotM]; grind
    rwa [e] at this
  have bd : g ∣ 4 * q.b * q.d := by
    have := Int.dvd_add m13 m31
    have e : (rotM q).a.z + (rotM q).c.x = 4 * q.b * q.d := by simp only [rotM]; grind
    rwa [e] at this
  have ac : g ∣ 4 * q.a * q.c := by
    have := Int.dvd_sub m13 m31
    have e : (rotM q).a.z - (rotM q).c.x = 4 * q.a * q.c := by simp only [rotM]; grind
    rwa [e] at this
  have cd : g ∣ 4 * q.c * q.d := by
    have := Int.dvd_add m23 m32
    have e : (rotM q).b.z + (rotM q).c.y = 4 * q.c * q.d := by simp only [rotM]; grind
    rwa [e] at this
  have ab : g ∣ 4 * q.a * q.b := by
    have := Int.dvd_sub m32 m23
    have e : (rotM q).c.y - (rotM q).b.z = 4 * q.a * q.b := by simp only [rotM]; grind
    rwa [e] at this
  have sw : ∀ x y : Int, g ∣ 4 * x * y → g ∣ 4 * y * x := fun x y h => by
    have e : 4 * y * x = 4 * x * y := by grind
    rwa [e]
  refine dvd_scaled h fun x hx => dvd_scaled h fun y hy => ?_
  simp only [Q.l, List.mem_cons, List.not_mem_nil, or_false] at hx hy
  rcases hx with rfl | rfl | rfl | rfl <;> rcases hy with rfl | rfl | rfl | rfl
  · exact aa
  · exact ab
  · exact ac
  · exact ad
  · exact sw _ _ ab
  · exact bb
  · exact bc
  · exact bd
  · exact sw _ _ ac
  · exact sw _ _ bc
  · exact cc
  · exact cd
  · exact sw _ _ ad
  · exact sw _ _ bd
  · exact sw _ _ cd
  · exact dd
theorem dvd_gT {d n : Int} {m : M3} (h0 : d ∣ n) (h1 : d ∣ m.a.x) (h2 : d ∣ m.a.y) (h3 : d ∣ m.a.z) (h4 : d ∣ m.b.x) (h5 : d ∣ m.b.y) (h6 : d ∣ m.b.z) (h7 : d ∣ m.c.x) (h8 : d ∣ m.c.y) (h9 : d ∣ m.c.z) : d ∣ gT n m := dvd_gcdL fun x hx => by
  simp only [M3.l, List.mem_cons, List.not_mem_nil, or_false] at hx
  rcases hx with rfl | rfl | rfl | rfl | rfl | rfl | rfl | rfl | rfl | rfl <;> assumption
theorem dvd4_cases {g : Int} (h : g ∣ 4) (hp : 0 < g) : g = 1 ∨ g = 2 ∨ g = 4 := by
  have := Int.le_of_dvd (by decide) h
  rcases (show g = 1 ∨ g = 2 ∨ g = 3 ∨ g = 4 by omega) with e | e | e | e
  · exact .inl e
  · exact .inr (.inl e)
  · rw [e] at h
    exact absurd h (by decide)
  · exact .inr (.inr e)
/-- the corner number is what of the squares is odd -/
theorem corner {q : Q} (h0 : ¬ q = ⟨0, 0, 0, 0⟩) (h : gQ q = 1) : ∃ g : Int, gT q.sq (rotM q) = g ∧ (g = 1 ∨ g = 2 ∨ g = 4) ∧ q.sq = g * crQ q ∧ crQ q % 2 = 1 ∧ 0 < crQ q := by
  have hp := sq_pos h0
  have g0 := gT_pos (rotM q) hp
  have h1 := dvd4_cases (gT_dvd4 h) g0
  obtain ⟨b1, b2⟩ := lowT_back hp (rotM q)
  have b3 := lowT_pos hp (rotM q)
  refine ⟨_, rfl, h1, b1.symm, ?_, b3⟩
  show q.sq / gT q.sq (rotM q) % 2 = 1
  have gn : gT q.sq (rotM q) ∣ q.sq := ⟨_, b1.symm⟩
  generalize q.sq / gT q.sq (rotM q) = c at *
  generalize hg : gT q.sq (rotM q) = g at *
  have D : ∀ d : Int, d ∣ q.sq → d ∣ q.a * q.a + q.b * q.b - q.c * q.c - q.d * q.d → d ∣ q.a * q.a - q.b * q.b + q.c * q.c - q.d * q.d → d ∣ q.a * q.a - q.b * q.b - q.c * q.c + q.d * q.d → d ∣ 2 * (q.b * q.c) - 2 * (q.a * q.d) → d ∣ 2 * (q.b * q.d) + 2 * (q.a * q.c) → d ∣ 2 * (q.b * q.c) + 2 * (q.a * q.d) → d ∣ 2 * (q.c * q.d) - 2 * (q.a * q.b) → d ∣ 2 * (q.b * q.d) - 2 * (q.a * q.c) → d ∣ 2 * (q.c * q.d) + 2 * (q.a * q.b) → d ∣ g := by
    intro d e0 e1 e2 e3 e4 e5 e6 e7 e8 e9
    rw [← hg]
    refine dvd_gT e0 e1 ?_ ?_ ?_ e2 ?_ ?_ ?_ e3 <;> simp only [rotM, Int.mul_assoc] <;> assumption
  have hs : q.sq = q.a * q.a + q.b * q.b + q.c * q.c + q.d * q.d := rfl
  have hne : ¬ (q.a % 2 = 0 ∧ q.b % 2 = 0 ∧ q.c % 2 = 0 ∧ q.d % 2 = 0) := fun ⟨e1, e2, e3, e4⟩ => by
    have : (2 : Int) ∣ gQ q := dvd_gcdL fun x hx => by
      simp only [Q.l, List.mem_cons, List.not_mem_nil, or_false] at hx
      rcases hx with rfl | rfl | rfl | rfl <;> omega
    rw [h] at this
    exact absurd this (by decide)
  by_cases hn : q.sq % 2 = 1
  · rcases h1 with rfl | rfl | rfl <;> omega
  have h2 : (2 : Int) ∣ g := by apply D <;> omega
  by_cases hall : q.a % 2 = 1 ∧ q.b % 2 = 1 ∧ q.c % 2 = 1 ∧ q.d % 2 = 1
  · obtain ⟨ha, hb, hc, hd⟩ := hall
    have Sa := sq_odd8 ha
    have Sb := sq_odd8 hb
    have Sc := sq_odd8 hc
    have Sd := sq_odd8 hd
    have o1 := mul_odd hb hc
    have o2 := mul_odd ha hd
    have o3 := mul_odd hb hd
    have o4 := mul_odd ha hc
    have o5 := mul_odd hc hd
    have o6 := mul_odd ha hb
    have : (4 : Int) ∣ g := by apply D <;> omega
    rcases h1 with rfl | rfl | rfl
    · omega
    · omega
    · omega
  · have SA : q.a % 2 = 0 ∧ q.a * q.a % 4 = 0 ∨ q.a % 2 = 1 ∧ q.a * q.a % 8 = 1 := by
      rcases (show q.a % 2 = 0 ∨ q.a % 2 = 1 by omega) with h | h
      · exact .inl ⟨h, sq_even h⟩
      · exact .inr ⟨h, sq_odd8 h⟩
    have SB : q.b % 2 = 0 ∧ q.b * q.b % 4 = 0 ∨ q.b % 2 = 1 ∧ q.b * q.b % 8 = 1 := by
      rcases (show q.b % 2 = 0 ∨ q.b % 2 = 1 by omega) with h | h
      · exact .inl ⟨h, sq_even h⟩
      · exact .inr ⟨h, sq_odd8 h⟩
    have SC : q.c % 2 = 0 ∧ q.c * q.c % 4 = 0 ∨ q.c % 2 = 1 ∧ q.c * q.c % 8 = 1 := by
      rcases (show q.c % 2 = 0 ∨ q.c % 2 = 1 by omega) with h | h
      · exact .inl ⟨h, sq_even h⟩
      · exact .inr ⟨h, sq_odd8 h⟩
    have SD : q.d % 2 = 0 ∧ q.d * q.d % 4 = 0 ∨ q.d % 2 = 1 ∧ q.d * q.d % 8 = 1 := by
      rcases (show q.d % 2 = 0 ∨ q.d % 2 = 1 by omega) with h | h
      · exact .inl ⟨h, sq_even h⟩
      · exact .inr ⟨h, sq_odd8 h⟩
    have n4 : q.sq % 4 = 2 := by
      rcases SA with ⟨ha, Sa⟩ | ⟨ha, Sa⟩ <;> rcases SB with ⟨hb, Sb⟩ | ⟨hb, Sb⟩ <;> rcases SC with ⟨hc, Sc⟩ | ⟨hc, Sc⟩ <;> rcases SD with ⟨hd, Sd⟩ | ⟨hd, Sd⟩ <;> omega
    rcases h1 with rfl | rfl | rfl
    · omega
    · omega
    · omega
theorem bar_g {q : Q} (h : gQ q = 1) : gQ q.bar = 1 := by
  have e : gQ q.bar = gQ q := by
    unfold gQ gcdL gcdN Q.l Q.bar
    simp only [List.foldl_cons, List.foldl_nil, Int.natAbs_neg]
  rw [e, h]
theorem bar_sq (q : Q) : q.bar.sq = q.sq := by
  simp only [Q.sq, Q.bar]
  grind
theorem corner_bar {q : Q} (h0 : ¬ q = ⟨0, 0, 0, 0⟩) (h : gQ q = 1) : crQ q.bar = crQ q := by
  obtain ⟨g, _, h1, h2, h3, h4⟩ := corner h0 h
  obtain ⟨g', _, h1', h2', h3', h4'⟩ := corner (bar_ne' h0) (bar_g h)
  rw [bar_sq] at h2'
  rcases h1 with rfl | rfl | rfl <;> rcases h1' with rfl | rfl | rfl <;> omega
theorem cr_smul {k : Int} (hk : k ≠ 0) {q : Q} (h : ¬ q = ⟨0, 0, 0, 0⟩) : crQ (q.smul k) = crQ q := by
  unfold crQ
  rw [smul_sq, rot_smul]
  exact (lowT_scale (kk_pos hk) (sq_pos h) (rotM q)).1
theorem cr_told {q : Q} (h : ¬ q = ⟨0, 0, 0, 0⟩) : crQ (toldQ q) = crQ q := by
  have := cr_smul (by_ne h) (told_ne h)
  rw [told_back] at this
  exact this.symm
theorem cr_pos {q : Q} (h : ¬ q = ⟨0, 0, 0, 0⟩) : 0 < crQ q := lowT_pos (sq_pos h) _
theorem cr_bar {q : Q} (h : ¬ q = ⟨0, 0, 0, 0⟩) : crQ q.bar = crQ q := by
  rw [← cr_told h, ← corner_bar (told_ne h) (gQ_told h), ← cr_told (bar_ne' (told_ne h)), told_bar h, cr_told (bar_ne' h)]
/-! ### spots that stay whole -/
def stB (q : Q) (v : V3) : Bool := decide (((rotM q).app v).x % q.sq = 0) && (decide (((rotM q).app v).y % q.sq = 0) && decide (((rotM q).app v).z % q.sq = 0))
theorem gV_one {n : Int} (hn : 0 < n) (v : V3) : n / gV n v = 1 ↔ v.x % n = 0 ∧ v.y % n = 0 ∧ v.z % n = 0 := by
  have g0 := gV_pos v hn
  obtain ⟨b1, b2⟩ := lowV_back hn v
  constructor
  · intro h
    rw [h, Int.mul_one] at b1
    have hm : ∀ x ∈ n :: v.l, n ∣ x := fun x hx => by
      have : gV n v ∣ x := gcdL_dvd hx
      rwa [b1] at this
    exact ⟨Int.emod_eq_zero_of_dvd (hm _ (by simp [V3.l])), Int.emod_eq_zero_of_dvd (hm _ (by simp [V3.l])), Int.emod_eq_zero_of_dvd (hm _ (by simp [V3.l]))⟩
  · rintro ⟨h1, h2, h3⟩
    have hd : n ∣ gV n v := dvd_gcdL fun x hx => by
      simp only [V3.l, List.mem_cons, List.not_mem_nil, or_false] at hx
      rcases hx with rfl | rfl | rfl | rfl
      · exact Int.dvd_refl _
      · exact Int.dvd_of_emod_eq_zero h1
      · exact Int.dvd_of_emod_eq_zero h2
      · exact Int.dvd_of_emod_eq_zero h3
    have h4 := Int.le_of_dvd g0 hd
    have h5 : gV n v ≤ n := gcdL_le (List.mem_cons_self ..) hn
    have e : gV n v = n := by omega
    rw [e]
    exact Int.ediv_self (by omega)
theorem st_iff {q : Q} (h : ¬ q = ⟨0, 0, 0, 0⟩) (v : V3) : decide (q.sq / gV q.sq ((rotM q).app v) = 1) = stB q v := by
  have := gV_one (sq_pos h) ((rotM q).app v)
  unfold stB
  rw [Bool.eq_iff_iff]
  simp only [decide_eq_true_eq, Bool.and_eq_true]
  exact this
theorem emod_scale {k n x : Int} (hk : 0 < k) : k * x % (k * n) = 0 ↔ x % n = 0 := by
  constructor
  · intro h
    obtain ⟨y, hy⟩ := Int.dvd_of_emod_eq_zero h
    exact Int.emod_eq_zero_of_dvd ⟨y, Int.eq_of_mul_eq_mul_left (Int.ne_of_gt hk) (by rw [hy, Int.mul_assoc])⟩
  · intro h
    obtain ⟨y, hy⟩ := Int.dvd_of_emod_eq_zero h
    exact Int.emod_eq_zero_of_dvd ⟨y, by rw [hy, Int.mul_assoc]⟩
theorem st_smul {k : Int} (hk : k ≠ 0) (q : Q) (v : V3) : stB (q.smul k) v = stB q v := by
  have hk2 := kk_pos hk
  unfold stB
  rw [smul_sq, rot_smul, M3.sm_app]
  simp only [V3.sm, emod_scale hk2]
theorem st_told {q : Q} (h : ¬ q = ⟨0, 0, 0, 0⟩) (v : V3) : stB (toldQ q) v = stB q v := by
  have := st_smul (by_ne h) (toldQ q) v
  rw [told_back] at this
  exact this.symm
end HD

set_option Elab.async false
set_option linter.all false
set_option maxRecDepth 100000
/-! Lt: whole sums of three spots; primes; the index of the spots that stay whole -/
namespace HD
open PySem L2
/-! ### whole numbers: sums that make the greatest divisor; primes -/
theorem bez : ∀ (n : Nat) (a b : Int), b.natAbs < n → ∃ x y : Int, x * a + y * b = (Int.gcd a b : Int)
  | 0, _, _, h => by omega
  | n + 1, a, b, h => by
    by_cases h0 : b = 0
    · subst h0
      rw [Int.gcd_zero_right]
      rcases (show a < 0 ∨ 0 ≤ a by omega) with ha | ha
      · exact ⟨-1, 0, by omega⟩
      · exact ⟨1, 0, by omega⟩
    · have h1 := Int.emod_nonneg a h0
      have h2 : a % b < (b.natAbs : Int) := Int.emod_lt a h0
      obtain ⟨x, y, e⟩ := bez n b (a % b) (by omega)
      have e2 : Int.gcd b (a % b) = Int.gcd a b := by
        have h3 : a % b = a - b * (a / b) := Int.emod_def a b
        apply Nat.dvd_antisymm
        · apply Int.dvd_gcd
          · have := Int.dvd_add (Int.gcd_dvd_right b (a % b)) (Int.dvd_mul_of_dvd_left (c := a / b) (Int.gcd_dvd_left b (a % b)))
            rwa [show a % b + b * (a / b) = a by omega] at this
          · exact Int.gcd_dvd_left b (a % b)
        · apply Int.dvd_gcd
          · exact Int.gcd_dvd_right a b
          · rw [h3]
            exact Int.dvd_sub (Int.gcd_dvd_left a b) (Int.dvd_mul_of_dvd_left (c := a / b) (Int.gcd_dvd_right a b))
      rw [e2] at e
      have e3 : a % b = a - b * (a / b) := Int.emod_def a b
      refine ⟨y, x - y * (a / b), ?_⟩
      rw [← e, e3]
      grind
theorem bezout (a b : Int) : ∃ x y : Int, x * a + y * b = (Int.gcd a b : Int) := bez (b.natAbs + 1) a b (by omega)
/-- a prime -/
structure Pr (p : Nat) : Prop where
  gt : 1 < p
  or : ∀ a b : Int, (p : Int) ∣ a * b → (p : Int) ∣ a ∨ (p : Int) ∣ b
theorem exists_pr (n : Nat) : 1 < n → ∃ p, Pr p ∧ p ∣ n := by
  induction n using Nat.strongRecOn with
  | _ n ih =>
    intro h
    by_cases hd : ∃ d, 1 < d ∧ d < n ∧ d ∣ n
    · obtain ⟨d, h1, h2, h3⟩ := hd
      obtain ⟨p, hp, hpd⟩ := ih d h2 h1
      exact ⟨p, hp, Nat.dvd_trans hpd h3⟩
    · refine ⟨n, ⟨h, fun a b hab => ?_⟩, Nat.dvd_refl n⟩
      have hg : Nat.gcd n a.natAbs ∣ n := Nat.gcd_dvd_left _ _
      have hpos : 0 < Nat.gcd n a.natAbs := Nat.gcd_pos_of_pos_left _ (by omega)
      by_cases h1 : Nat.gcd n a.natAbs = 1
      · right
        have h2 : n ∣ a.natAbs * b.natAbs := by rw [← Int.natAbs_mul]; exact Int.ofNat_dvd_left.1 hab
        exact Int.ofNat_dvd_left.2 (Nat.Coprime.dvd_of_dvd_mul_left h1 h2)
      · left
        have h2 : Nat.gcd n a.natAbs ≤ n := Nat.le_of_dvd (by omega) hg
        have h3 : Nat.gcd n a.natAbs = n := by
          by_cases hlt : Nat.gcd n a.natAbs < n
          · exact absurd ⟨_, by omega, hlt, hg⟩ hd
          · omega
        exact Int.ofNat_dvd_left.2 (by rw [← h3]; exact Nat.gcd_dvd_right _ _)
/-- a number divided by just the primes of n that do not divide a -/
theorem part_off (a : Int) (n : Nat) : 0 < n → ∃ t : Nat, t ∣ n ∧ ∀ p, Pr p → p ∣ n → (p ∣ t ↔ ¬ (p : Int) ∣ a) := by
  induction n using Nat.strongRecOn with
  | _ n ih =>
    intro h
    have hg := Nat.gcd_dvd_left n a.natAbs
    have hpos : 0 < Nat.gcd n a.natAbs := Nat.gcd_pos_of_pos_left _ h
    by_cases h1 : Nat.gcd n a.natAbs = 1
    · refine ⟨n, Nat.dvd_refl n, fun p hp hpn => ⟨fun _ hpa => ?_, fun _ => hpn⟩⟩
      have : p ∣ Nat.gcd n a.natAbs := Nat.dvd_gcd hpn (Int.ofNat_dvd_left.1 hpa)
      rw [h1] at this
      have := Nat.le_of_dvd (by decide) this
      have := hp.gt
      omega
    · obtain ⟨m, hm⟩ := hg
      have hm0 : 0 < m := by
        rcases Nat.eq_zero_or_pos m with e | e
        · rw [e, Nat.mul_zero] at hm; omega
        · exact e
      have hlt : m < n := by
        have : 1 * m < Nat.gcd n a.natAbs * m := Nat.mul_lt_mul_of_pos_right (by omega) hm0
        omega
      obtain ⟨t, ht, H⟩ := ih m hlt hm0
      refine ⟨t, Nat.dvd_trans ht ⟨Nat.gcd n a.natAbs, by rw [Nat.mul_comm]; exact hm⟩, fun p hp hpn => ?_⟩
      by_cases hpm : p ∣ m
      · exact H p hp hpm
      · have hpg : (p : Int) ∣ a := by
          rcases hp.or (Nat.gcd n a.natAbs : Nat) m (by rw [← Int.natCast_mul, ← hm]; exact Int.ofNat_dvd.2 hpn) with z | z
          · exact Int.ofNat_dvd_left.2 (Nat.dvd_trans (Int.ofNat_dvd.1 z) (Nat.gcd_dvd_right _ _))
          · exact absurd (Int.ofNat_dvd.1 z) hpm
        exact ⟨fun hpt => absurd (Nat.dvd_trans hpt ht) hpm, fun hn => absurd hpg hn⟩
theorem gcdL_scaled {l : List Int} (h : gcdL l = 1) {g k : Int} (hg : ∀ x ∈ l, g ∣ k * x) : g ∣ k := by
  have h1 : g ∣ gcdL (l.map fun x => (k.natAbs : Int) * x) := dvd_gcdL fun x hx => by
    obtain ⟨y, hy, rfl⟩ := List.mem_map.1 hx
    have := hg y hy
    rcases Int.natAbs_eq k with e | e
    · rw [e] at this; exact this
    · rw [e, Int.neg_mul] at this
      exact Int.dvd_neg.1 this
  rw [gcdL_scale, h, Int.mul_one] at h1
  exact Int.dvd_natAbs.1 h1

/-! ### spots: sums, what stands upright -/
def V3.cross (v w : V3) : V3 := ⟨v.y * w.z - v.z * w.y, v.z * w.x - v.x * w.z, v.x * w.y - v.y * w.x⟩
def comb (p q r : Int) (a b c : V3) : V3 := ⟨p * a.x + q * b.x + r * c.x, p * a.y + q * b.y + r * c.y, p * a.z + q * b.z + r * c.z⟩
/-- a whole sum -/
def Sp3 (a b c v : V3) : Prop := ∃ p q r : Int, v = comb p q r a b c
def DvV (n : Int) (v : V3) : Prop := n ∣ v.x ∧ n ∣ v.y ∧ n ∣ v.z
theorem triple (v r s : V3) : s.x * v.dot r - r.x * v.dot s = (v.cross (s.cross r)).x ∧ s.y * v.dot r - r.y * v.dot s = (v.cross (s.cross r)).y ∧ s.z * v.dot r - r.z * v.dot s = (v.cross (s.cross r)).z := by
  refine ⟨?_, ?_, ?_⟩ <;> simp only [V3.cross, V3.dot] <;> grind
theorem dv_cross {n : Int} {v w : V3} (h : DvV n w) : DvV n (v.cross w) :=
  ⟨Int.dvd_sub (Int.dvd_mul_of_dvd_right h.2.2) (Int.dvd_mul_of_dvd_right h.2.1), Int.dvd_sub (Int.dvd_mul_of_dvd_right h.1) (Int.dvd_mul_of_dvd_right h.2.2), Int.dvd_sub (Int.dvd_mul_of_dvd_right h.2.1) (Int.dvd_mul_of_dvd_right h.1)⟩
theorem dv_add {n : Int} {v w : V3} (h : DvV n v) (h2 : DvV n w) : DvV n ⟨v.x + w.x, v.y + w.y, v.z + w.z⟩ := ⟨Int.dvd_add h.1 h2.1, Int.dvd_add h.2.1 h2.2.1, Int.dvd_add h.2.2 h2.2.2⟩
theorem dv_sm {n : Int} (k : Int) {v : V3} (h : DvV n v) : DvV n (v.sm k) := ⟨Int.dvd_mul_of_dvd_right h.1, Int.dvd_mul_of_dvd_right h.2.1, Int.dvd_mul_of_dvd_right h.2.2⟩
/-- the rows are multiples of one another, but for multiples of n -/
structure Rk1 (n : Int) (P : M3) : Prop where
  bc : DvV n (P.b.cross P.c)
  ca : DvV n (P.c.cross P.a)
  ab : DvV n (P.a.cross P.b)
theorem cross_comb (n : Int) {P : M3} (h : Rk1 n P) (t1 t2 t3 : Int) : DvV n ((comb t1 t2 t3 P.a P.b P.c).cross P.a) ∧ DvV n ((comb t1 t2 t3 P.a P.b P.c).cross P.b) ∧ DvV n ((comb t1 t2 t3 P.a P.b P.c).cross P.c) := by
  refine ⟨?_, ?_, ?_⟩
  · have := dv_add (dv_sm (-t2) h.ab) (dv_sm t3 h.ca)
    have e : (⟨((P.a.cross P.b).sm (-t2)).x + ((P.c.cross P.a).sm t3).x, ((P.a.cross P.b).sm (-t2)).y + ((P.c.cross P.a).sm t3).y, ((P.a.cross P.b).sm (-t2)).z + ((P.c.cross P.a).sm t3).z⟩ : V3) = (comb t1 t2 t3 P.a P.b P.c).cross P.a := by
      apply V3.ext' <;> simp only [V3.sm, V3.cross, comb] <;> grind
    rwa [e] at this
  · have := dv_add (dv_sm t1 h.ab) (dv_sm (-t3) h.bc)
    have e : (⟨((P.a.cross P.b).sm t1).x + ((P.b.cross P.c).sm (-t3)).x, ((P.a.cross P.b).sm t1).y + ((P.b.cross P.c).sm (-t3)).y, ((P.a.cross P.b).sm t1).z + ((P.b.cross P.c).sm (-t3)).z⟩ : V3) = (comb t1 t2 t3 P.a P.b P.c).cross P.b := by
      apply V3.ext' <;> simp only [V3.sm, V3.cross, comb] <;> grind
    rwa [e] at this
  · have := dv_add (dv_sm (-t1) h.ca) (dv_sm t2 h.bc)
    have e : (⟨((P.c.cross P.a).sm (-t1)).x + ((P.b.cross P.c).sm t2).x, ((P.c.cross P.a).sm (-t1)).y + ((P.b.cross P.c).sm t2).y, ((P.c.cross P.a).sm (-t1)).z + ((P.b.cross P.c).sm t2).z⟩ : V3) = (comb t1 t2 t3 P.a P.b P.c).cross P.c := by
      apply V3.ext' <;> simp only [V3.sm, V3.cross, comb] <;> grind
    rwa [e] at this
/-- no prime of n divides the spot -/
def Off (n : Nat) (w : V3) : Prop := ∀ p, Pr p → p ∣ n → ¬ DvV (p : Int) w
theorem off_gcd {n : Nat} (hn : 0 < n) {w : V3} (h : Off n w) : gcdL [(n : Int), w.x, w.y, w.z] = 1 := by
  generalize hg : gcdL [(n : Int), w.x, w.y, w.z] = g
  have h1 : g ∣ (n : Int) := hg ▸ gcdL_dvd (by simp)
  have hx : g ∣ w.x := hg ▸ gcdL_dvd (by simp)
  have hy : g ∣ w.y := hg ▸ gcdL_dvd (by simp)
  have hz : g ∣ w.z := hg ▸ gcdL_dvd (by simp)
  have g0 : 0 < g := hg ▸ gcdL_pos (x := (n : Int)) (by simp) (by omega)
  by_cases hgt : 1 < g
  · obtain ⟨p, hp, hpg⟩ := exists_pr g.toNat (by omega)
    have hpg' : (p : Int) ∣ g := by
      have := Int.ofNat_dvd.2 hpg
      rwa [Int.toNat_of_nonneg (by omega)] at this
    exact absurd ⟨Int.dvd_trans hpg' hx, Int.dvd_trans hpg' hy, Int.dvd_trans hpg' hz⟩ (h p hp (Int.ofNat_dvd.1 (Int.dvd_trans hpg' h1)))
  · omega
theorem dv_gcd {n : Int} {v : V3} : DvV n v ↔ n ∣ gcdL v.l := by
  constructor
  · intro h
    refine dvd_gcdL fun x hx => ?_
    simp only [V3.l, List.mem_cons, List.not_mem_nil, or_false] at hx
    rcases hx with rfl | rfl | rfl
    · exact h.1
    · exact h.2.1
    · exact h.2.2
  · intro h
    exact ⟨Int.dvd_trans h (gcdL_dvd (by simp [V3.l])), Int.dvd_trans h (gcdL_dvd (by simp [V3.l])), Int.dvd_trans h (gcdL_dvd (by simp [V3.l]))⟩
theorem dv_sum {n : Int} {v w : V3} (h : DvV n v) (h2 : DvV n ⟨v.x + w.x, v.y + w.y, v.z + w.z⟩) : DvV n w := by
  have e : w = ⟨(v.x + w.x) + (v.sm (-1)).x, (v.y + w.y) + (v.sm (-1)).y, (v.z + w.z) + (v.sm (-1)).z⟩ := by apply V3.ext' <;> simp only [V3.sm] <;> omega
  rw [e]
  exact dv_add h2 (dv_sm (-1) h)
theorem dv_unsm {p : Nat} (hp : Pr p) {k : Int} {v : V3} (h : DvV (p : Int) (v.sm k)) (hk : ¬ (p : Int) ∣ k) : DvV (p : Int) v :=
  ⟨(hp.or _ _ h.1).resolve_left hk, (hp.or _ _ h.2.1).resolve_left hk, (hp.or _ _ h.2.2).resolve_left hk⟩
theorem comb_sum (t2 t3 : Int) (a b c : V3) : comb 1 t2 t3 a b c = ⟨a.x + (⟨(b.sm t2).x + (c.sm t3).x, (b.sm t2).y + (c.sm t3).y, (b.sm t2).z + (c.sm t3).z⟩ : V3).x, a.y + (⟨(b.sm t2).x + (c.sm t3).x, (b.sm t2).y + (c.sm t3).y, (b.sm t2).z + (c.sm t3).z⟩ : V3).y, a.z + (⟨(b.sm t2).x + (c.sm t3).x, (b.sm t2).y + (c.sm t3).y, (b.sm t2).z + (c.sm t3).z⟩ : V3).z⟩ := by
  apply V3.ext' <;> simp only [V3.sm, comb] <;> omega
/-- one sum of the rows tells all -/
theorem one_row {n : Nat} (hn : 0 < n) {P : M3} (hg : gT (n : Int) P = 1) : ∃ t2 t3 : Int, Off n (comb 1 t2 t3 P.a P.b P.c) := by
  obtain ⟨t2, _, H2⟩ := part_off (gcdL P.a.l) n hn
  obtain ⟨t3, _, H3⟩ := part_off (gcdL (P.a.l ++ P.b.l)) n hn
  refine ⟨t2, t3, fun p hp hpn h => ?_⟩
  have G3 := H3 p hp hpn
  have G2 := H2 p hp hpn
  rw [← dv_gcd] at G2
  have sp : (p : Int) ∣ gcdL (P.a.l ++ P.b.l) ↔ DvV (p : Int) P.a ∧ DvV (p : Int) P.b := by
    rw [dv_gcd, dv_gcd]
    constructor
    · intro h
      exact ⟨dvd_gcdL fun x hx => Int.dvd_trans h (gcdL_dvd (List.mem_append_left _ hx)), dvd_gcdL fun x hx => Int.dvd_trans h (gcdL_dvd (List.mem_append_right _ hx))⟩
    · rintro ⟨ha, hb⟩
      exact dvd_gcdL fun x hx => (List.mem_append.1 hx).elim (fun z => Int.dvd_trans ha (gcdL_dvd z)) fun z => Int.dvd_trans hb (gcdL_dvd z)
  rw [sp] at G3
  rw [comb_sum] at h
  by_cases ha : DvV (p : Int) P.a
  · have h' := dv_sum ha h
    have n2 : ¬ (p : Int) ∣ (t2 : Int) := fun z => (G2.1 (Int.ofNat_dvd.1 z)) ha
    by_cases hb : DvV (p : Int) P.b
    · have n3 : ¬ (p : Int) ∣ (t3 : Int) := fun z => (G3.1 (Int.ofNat_dvd.1 z)) ⟨ha, hb⟩
      have hc := dv_unsm hp (dv_sum (dv_sm t2 hb) h') n3
      have : (p : Int) ∣ gT (n : Int) P := dvd_gT (Int.ofNat_dvd.2 hpn) ha.1 ha.2.1 ha.2.2 hb.1 hb.2.1 hb.2.2 hc.1 hc.2.1 hc.2.2
      rw [hg] at this
      have h1 := Int.le_of_dvd (by decide) this
      have h2 := hp.gt
      omega
    · have h3 : (p : Int) ∣ (t3 : Int) := Int.ofNat_dvd.2 (G3.2 fun z => hb z.2)
      have hc : DvV (p : Int) (P.c.sm t3) := ⟨Int.dvd_mul_of_dvd_left h3, Int.dvd_mul_of_dvd_left h3, Int.dvd_mul_of_dvd_left h3⟩
      have hb' : DvV (p : Int) (P.b.sm t2) := dv_sum hc (by
        have e : (⟨(P.c.sm t3).x + (P.b.sm t2).x, (P.c.sm t3).y + (P.b.sm t2).y, (P.c.sm t3).z + (P.b.sm t2).z⟩ : V3) = ⟨(P.b.sm t2).x + (P.c.sm t3).x, (P.b.sm t2).y + (P.c.sm t3).y, (P.b.sm t2).z + (P.c.sm t3).z⟩ := by apply V3.ext' <;> simp only [] <;> omega
        rw [e]
        exact h')
      exact hb (dv_unsm hp hb' n2)
  · have h2 : (p : Int) ∣ (t2 : Int) := Int.ofNat_dvd.2 (G2.2 ha)
    have h3 : (p : Int) ∣ (t3 : Int) := Int.ofNat_dvd.2 (G3.2 fun z => ha z.1)
    have hb : DvV (p : Int) (P.b.sm t2) := ⟨Int.dvd_mul_of_dvd_left h2, Int.dvd_mul_of_dvd_left h2, Int.dvd_mul_of_dvd_left h2⟩
    have hc : DvV (p : Int) (P.c.sm t3) := ⟨Int.dvd_mul_of_dvd_left h3, Int.dvd_mul_of_dvd_left h3, Int.dvd_mul_of_dvd_left h3⟩
    refine ha (dv_sum (dv_add hb hc) ?_)
    have e : (⟨((⟨(P.b.sm t2).x + (P.c.sm t3).x, (P.b.sm t2).y + (P.c.sm t3).y, (P.b.sm t2).z + (P.c.sm t3).z⟩ : V3)).x + P.a.x, ((⟨(P.b.sm t2).x + (P.c.sm t3).x, (P.b.sm t2).y + (P.c.sm t3).y, (P.b.sm t2).z + (P.c.sm t3).z⟩ : V3)).y + P.a.y, ((⟨(P.b.sm t2).x + (P.c.sm t3).x, (P.b.sm t2).y + (P.c.sm t3).y, (P.b.sm t2).z + (P.c.sm t3).z⟩ : V3)).z + P.a.z⟩ : V3) = ⟨P.a.x + (⟨(P.b.sm t2).x + (P.c.sm t3).x, (P.b.sm t2).y + (P.c.sm t3).y, (P.b.sm t2).z + (P.c.sm t3).z⟩ : V3).x, P.a.y + (⟨(P.b.sm t2).x + (P.c.sm t3).x, (P.b.sm t2).y + (P.c.sm t3).y, (P.b.sm t2).z + (P.c.sm t3).z⟩ : V3).y, P.a.z + (⟨(P.b.sm t2).x + (P.c.sm t3).x, (P.b.sm t2).y + (P.c.sm t3).y, (P.b.sm t2).z + (P.c.sm t3).z⟩ : V3).z⟩ := by apply V3.ext' <;> simp only [] <;> omega
    rw [e]
    exact h
/-- the spots that the rows bring to multiples of n are those that one row brings there -/
theorem one_row_iff {n : Nat} (hn : 0 < n) {P : M3} (hr : Rk1 n P) {w : V3} {t2 t3 : Int} (hw : w = comb 1 t2 t3 P.a P.b P.c) (ho : Off n w) (v : V3) : DvV (n : Int) (P.app v) ↔ (n : Int) ∣ w.dot v := by
  constructor
  · intro h
    have e : w.dot v = (P.app v).x + (t2 * (P.app v).y + t3 * (P.app v).z) := by
      rw [hw]
      simp only [comb, V3.dot, M3.app]
      grind
    rw [e]
    exact Int.dvd_add h.1 (Int.dvd_add (Int.dvd_mul_of_dvd_right h.2.1) (Int.dvd_mul_of_dvd_right h.2.2))
  · intro h
    have g1 := off_gcd hn ho
    obtain ⟨c1, c2, c3⟩ := cross_comb n hr 1 t2 t3
    rw [← hw] at c1 c2 c3
    have key : ∀ r : V3, DvV (n : Int) (w.cross r) → (n : Int) ∣ r.dot v := fun r hc => by
      have hc' := dv_cross (v := v) hc
      obtain ⟨e1, e2, e3⟩ := triple v r w
      have dc : ∀ a b : V3, a.dot b = b.dot a := fun a b => by simp only [V3.dot]; grind
      rw [dc v r, dc v w] at e1 e2 e3
      refine gcdL_scaled g1 fun x hx => ?_
      simp only [List.mem_cons, List.not_mem_nil, or_false] at hx
      have fin : ∀ a b k : Int, a * r.dot v - b * w.dot v = k → (n : Int) ∣ k → (n : Int) ∣ r.dot v * a := fun a b k e hk => by
        have e' : r.dot v * a = b * w.dot v + k := by rw [← e]; grind
        rw [e']
        exact Int.dvd_add (Int.dvd_mul_of_dvd_right h) hk
      rcases hx with rfl | rfl | rfl | rfl
      · exact Int.dvd_mul_left _ _
      · exact fin _ _ _ e1 hc'.1
      · exact fin _ _ _ e2 hc'.2.1
      · exact fin _ _ _ e3 hc'.2.2
    exact ⟨key _ c1, key _ c2, key _ c3⟩
/-- a base as told -/
structure Bs (m : M3) : Prop where
  bx : m.b.x = 0
  cx : m.c.x = 0
  cy : m.c.y = 0
  a : 0 < m.a.x
  d : 0 < m.b.y
  f : 0 < m.c.z
theorem mul_zero_pos {a b : Int} (h : a * b = 0) (hb : 0 < b) : a = 0 := (Int.mul_eq_zero.1 h).resolve_right (by omega)
theorem comb_tri {m : M3} (h : Bs m) (p q r : Int) : comb p q r m.a m.b m.c = ⟨p * m.a.x, p * m.a.y + q * m.b.y, p * m.a.z + q * m.b.z + r * m.c.z⟩ := by
  apply V3.ext' <;> simp only [comb, h.bx, h.cx, h.cy, Int.mul_zero, Int.add_zero]
theorem index {n : Nat} (hn : 0 < n) {P : M3} (hr : Rk1 n P) (hg : gT (n : Int) P = 1) {m : M3} (hb : Bs m) (hs : ∀ v, Sp3 m.a m.b m.c v ↔ DvV (n : Int) (P.app v)) : m.a.x * m.b.y * m.c.z = n := by
  have n0 : (0 : Int) < n := by omega
  have d0 : 0 < m.a.x * m.b.y * m.c.z := Int.mul_pos (Int.mul_pos hb.a hb.d) hb.f
  -- n divides it
  have h1 : (n : Int) ∣ m.a.x * m.b.y * m.c.z := by
    have s1 : Sp3 m.a m.b m.c ⟨m.a.x * m.b.y * m.c.z, 0, 0⟩ := ⟨m.b.y * m.c.z, -(m.c.z * m.a.y), m.b.z * m.a.y - m.b.y * m.a.z, by
      rw [comb_tri hb]
      apply V3.ext' <;> simp only [] <;> grind⟩
    have s2 : Sp3 m.a m.b m.c ⟨0, m.a.x * m.b.y * m.c.z, 0⟩ := ⟨0, m.a.x * m.c.z, -(m.a.x * m.b.z), by
      rw [comb_tri hb]
      apply V3.ext' <;> simp only [] <;> grind⟩
    have s3 : Sp3 m.a m.b m.c ⟨0, 0, m.a.x * m.b.y * m.c.z⟩ := ⟨0, 0, m.a.x * m.b.y, by
      rw [comb_tri hb]
      apply V3.ext' <;> simp only [] <;> grind⟩
    obtain ⟨a1, a2, a3⟩ := (hs _).1 s1
    obtain ⟨b1, b2, b3⟩ := (hs _).1 s2
    obtain ⟨c1, c2, c3⟩ := (hs _).1 s3
    simp only [M3.app, V3.dot, Int.mul_zero, Int.add_zero, Int.zero_add] at a1 a2 a3 b1 b2 b3 c1 c2 c3
    refine gcdL_scaled hg fun x hx => ?_
    rw [Int.mul_comm]
    simp only [M3.l, List.mem_cons, List.not_mem_nil, or_false] at hx
    rcases hx with rfl | rfl | rfl | rfl | rfl | rfl | rfl | rfl | rfl | rfl
    · exact Int.dvd_mul_right _ _
    all_goals assumption
  -- it divides n
  obtain ⟨t2, t3, ho⟩ := one_row hn hg
  generalize hw : comb 1 t2 t3 P.a P.b P.c = w at ho
  have hs' : ∀ v, Sp3 m.a m.b m.c v ↔ (n : Int) ∣ w.dot v := fun v => (hs v).trans (one_row_iff hn hr hw.symm ho v)
  obtain ⟨y1, y2, e1⟩ := bezout n w.z
  generalize hg3 : (Int.gcd n w.z : Int) = g3 at e1
  have q1 : g3 ∣ (n : Int) := hg3 ▸ Int.gcd_dvd_left _ _
  have q2 : g3 ∣ w.z := hg3 ▸ Int.gcd_dvd_right _ _
  have p3 : 0 < g3 := by
    have : g3 ≠ 0 := fun e => by rw [e] at q1; have := Int.zero_dvd.1 q1; omega
    omega
  obtain ⟨z1, z2, e2⟩ := bezout g3 w.y
  generalize hg2 : (Int.gcd g3 w.y : Int) = g2 at e2
  have q3 : g2 ∣ g3 := hg2 ▸ Int.gcd_dvd_left _ _
  have q4 : g2 ∣ w.y := hg2 ▸ Int.gcd_dvd_right _ _
  have p2 : 0 < g2 := by
    have : g2 ≠ 0 := fun e => by rw [e] at q3; have := Int.zero_dvd.1 q3; omega
    omega
  obtain ⟨k1, hk1⟩ := q1
  obtain ⟨k2, hk2⟩ := q2
  obtain ⟨k3, hk3⟩ := q3
  obtain ⟨k4, hk4⟩ := q4
  have f1 : m.c.z ∣ k1 := by
    have : (n : Int) ∣ w.dot ⟨0, 0, k1⟩ := by
      simp only [V3.dot, Int.mul_zero, Int.zero_add]
      exact ⟨k2, by rw [hk2, hk1]; grind⟩
    obtain ⟨p, q, r, e⟩ := (hs' _).2 this
    rw [comb_tri hb] at e
    have i1 := congrArg V3.x e
    have i2 := congrArg V3.y e
    have i3 := congrArg V3.z e
    simp only at i1 i2 i3
    have p0 := mul_zero_pos i1.symm hb.a
    rw [p0, Int.zero_mul, Int.zero_add] at i2 i3
    have q0 := mul_zero_pos i2.symm hb.d
    rw [q0, Int.zero_mul, Int.zero_add] at i3
    exact ⟨r, by rw [i3, Int.mul_comm]⟩
  have f2 : m.b.y ∣ k3 := by
    have : (n : Int) ∣ w.dot ⟨0, k3, -(k4 * y2)⟩ := by
      simp only [V3.dot, Int.mul_zero, Int.zero_add]
      refine ⟨k4 * y1, ?_⟩
      have : w.y * k3 = k4 * g3 := by rw [hk4, hk3]; grind
      have e3 : y2 * w.z = g3 - y1 * n := by omega
      rw [this]
      grind
    obtain ⟨p, q, r, e⟩ := (hs' _).2 this
    rw [comb_tri hb] at e
    have i1 := congrArg V3.x e
    have i2 := congrArg V3.y e
    simp only at i1 i2
    have p0 := mul_zero_pos i1.symm hb.a
    rw [p0, Int.zero_mul, Int.zero_add] at i2
    exact ⟨q, by rw [i2, Int.mul_comm]⟩
  have f3 : m.a.x ∣ g2 := by
    have : (n : Int) ∣ w.dot ⟨g2, -(w.x * z2), -(w.x * z1 * y2)⟩ := by
      simp only [V3.dot]
      refine ⟨w.x * z1 * y1, ?_⟩
      have e3 : z2 * w.y = g2 - z1 * g3 := by omega
      have e4 : y2 * w.z = g3 - y1 * n := by omega
      grind
    obtain ⟨p, q, r, e⟩ := (hs' _).2 this
    rw [comb_tri hb] at e
    have i1 := congrArg V3.x e
    simp only at i1
    exact ⟨p, by rw [i1, Int.mul_comm]⟩
  have h2 : m.a.x * m.b.y * m.c.z ∣ (n : Int) := by
    have := Int.mul_dvd_mul (Int.mul_dvd_mul f3 f2) f1
    rwa [← hk3, ← hk1] at this
  exact Int.le_antisymm (Int.le_of_dvd n0 h2) (Int.le_of_dvd d0 h1)
/-- a base is the only one with its whole sums -/
theorem base_only {m p : M3} (hm : Bs m) (hp : Bs p) (h1 : 0 ≤ m.a.y ∧ m.a.y < m.b.y ∧ 0 ≤ m.a.z ∧ m.a.z < m.c.z ∧ 0 ≤ m.b.z ∧ m.b.z < m.c.z) (h2 : 0 ≤ p.a.y ∧ p.a.y < p.b.y ∧ 0 ≤ p.a.z ∧ p.a.z < p.c.z ∧ 0 ≤ p.b.z ∧ p.b.z < p.c.z)
    (hs : ∀ v, Sp3 m.a m.b m.c v ↔ Sp3 p.a p.b p.c v) : m = p := by
  have own : ∀ m : M3, Sp3 m.a m.b m.c m.a ∧ Sp3 m.a m.b m.c m.b ∧ Sp3 m.a m.b m.c m.c := fun m => ⟨⟨1, 0, 0, by apply V3.ext' <;> simp only [comb] <;> omega⟩, ⟨0, 1, 0, by apply V3.ext' <;> simp only [comb] <;> omega⟩, ⟨0, 0, 1, by apply V3.ext' <;> simp only [comb] <;> omega⟩⟩
  obtain ⟨o1, o2, o3⟩ := own m
  obtain ⟨o4, o5, o6⟩ := own p
  -- the corners
  have one : ∀ {m p : M3}, Bs m → Bs p → (∀ v, Sp3 m.a m.b m.c v → Sp3 p.a p.b p.c v) → p.a.x ∣ m.a.x ∧ p.b.y ∣ m.b.y ∧ p.c.z ∣ m.c.z := fun {m p} hm hp H => by
    obtain ⟨o1, o2, o3⟩ := own m
    obtain ⟨x1, x2, x3, e1⟩ := H _ o1
    obtain ⟨y1, y2, y3, e2⟩ := H _ o2
    obtain ⟨z1, z2, z3, e3⟩ := H _ o3
    rw [comb_tri hp] at e1 e2 e3
    have i1 := congrArg V3.x e1
    have j1 := congrArg V3.x e2
    have j2 := congrArg V3.y e2
    have k1 := congrArg V3.x e3
    have k2 := congrArg V3.y e3
    have k3 := congrArg V3.z e3
    simp only [hm.bx, hm.cx, hm.cy] at i1 j1 j2 k1 k2 k3
    have y0 := mul_zero_pos j1.symm hp.a
    have z0 := mul_zero_pos k1.symm hp.a
    rw [y0, Int.zero_mul, Int.zero_add] at j2
    rw [z0, Int.zero_mul, Int.zero_add] at k2 k3
    have z00 := mul_zero_pos k2.symm hp.d
    rw [z00, Int.zero_mul, Int.zero_add] at k3
    exact ⟨⟨x1, by rw [i1, Int.mul_comm]⟩, ⟨y2, by rw [j2, Int.mul_comm]⟩, ⟨z3, by rw [k3, Int.mul_comm]⟩⟩
  obtain ⟨d1, d2, d3⟩ := one hm hp fun v => (hs v).1
  obtain ⟨d4, d5, d6⟩ := one hp hm fun v => (hs v).2
  have ax : m.a.x = p.a.x := Int.le_antisymm (Int.le_of_dvd hp.a d4) (Int.le_of_dvd hm.a d1)
  have bY : m.b.y = p.b.y := Int.le_antisymm (Int.le_of_dvd hp.d d5) (Int.le_of_dvd hm.d d2)
  have cz : m.c.z = p.c.z := Int.le_antisymm (Int.le_of_dvd hp.f d6) (Int.le_of_dvd hm.f d3)
  obtain ⟨x1, x2, x3, e1⟩ := (hs _).1 o1
  obtain ⟨y1, y2, y3, e2⟩ := (hs _).1 o2
  rw [comb_tri hp] at e1 e2
  have i1 := congrArg V3.x e1
  have i2 := congrArg V3.y e1
  have i3 := congrArg V3.z e1
  have j1 := congrArg V3.x e2
  have j2 := congrArg V3.y e2
  have j3 := congrArg V3.z e2
  simp only [hm.bx] at i1 i2 i3 j1 j2 j3
  have y0 := mul_zero_pos j1.symm hp.a
  rw [y0, Int.zero_mul, Int.zero_add] at j2 j3
  have cancel : ∀ {x a : Int}, 0 < a → a = x * a → x = 1 := fun {x a} ha h => Int.eq_of_mul_eq_mul_right (a := a) (by omega) (by omega)
  have x11 := cancel hp.a (by rw [← i1]; exact ax.symm)
  have y21 := cancel hp.d (by rw [← j2]; exact bY.symm)
  rw [y21, Int.one_mul] at j3
  rw [x11, Int.one_mul] at i2 i3
  have small : ∀ {x a u v : Int}, 0 ≤ u → u < a → 0 ≤ v → v < a → u = v + x * a → x = 0 := fun {x a u v} h1 h2 h3 h4 e => by
    rcases Int.lt_trichotomy x 0 with hx | hx | hx
    · have : x * a ≤ (-1) * a := Int.mul_le_mul_of_nonneg_right (by omega) (by omega)
      omega
    · exact hx
    · have : 1 * a ≤ x * a := Int.mul_le_mul_of_nonneg_right (by omega) (by omega)
      omega
  have x20 := small h1.1 (by rw [← bY]; exact h1.2.1) h2.1 h2.2.1 i2
  rw [x20, Int.zero_mul, Int.add_zero] at i2 i3
  have x30 := small h1.2.2.1 (by rw [← cz]; exact h1.2.2.2.1) h2.2.2.1 h2.2.2.2.1 i3
  rw [x30, Int.zero_mul, Int.add_zero] at i3
  have y30 := small h1.2.2.2.2.1 (by rw [← cz]; exact h1.2.2.2.2.2) h2.2.2.2.2.1 h2.2.2.2.2.2 j3
  rw [y30, Int.zero_mul, Int.add_zero] at j3
  apply M3.ext' <;> apply V3.ext'
  · exact ax
  · exact i2
  · exact i3
  · rw [hm.bx, hp.bx]
  · exact bY
  · exact j3
  · rw [hm.cx, hp.cx]
  · rw [hm.cy, hp.cy]
  · exact cz
/-! ### of a turn -/
theorem rot_cross (q : Q) : (rotM q).b.cross (rotM q).c = (rotM q).a.sm q.sq ∧ (rotM q).c.cross (rotM q).a = (rotM q).b.sm q.sq ∧ (rotM q).a.cross (rotM q).b = (rotM q).c.sm q.sq := by
  refine ⟨?_, ?_, ?_⟩ <;> apply V3.ext' <;> simp only [rotM, V3.cross, V3.sm, Q.sq] <;> grind
theorem cross_sm (g : Int) (v w : V3) : (v.sm g).cross (w.sm g) = (v.cross w).sm (g * g) := by
  apply V3.ext' <;> simp only [V3.cross, V3.sm] <;> grind
/-- the table's rows -/
def tabM (q : Q) : M3 := (rotM q).ov (gT q.sq (rotM q))
theorem tab_rk {q : Q} (h : ¬ q = ⟨0, 0, 0, 0⟩) : Rk1 (crQ q) (tabM q) := by
  have hp := sq_pos h
  obtain ⟨a1, a2⟩ := lowT_back hp (rotM q)
  have g0 := gT_pos (rotM q) hp
  have c1 : gT q.sq (rotM q) * crQ q = q.sq := a1
  obtain ⟨r1, r2, r3⟩ := rot_cross q
  have a3 : (tabM q).sm (gT q.sq (rotM q)) = rotM q := a2
  generalize gT q.sq (rotM q) = g at *
  generalize tabM q = P at *
  rw [← a3, ← c1] at r1 r2 r3
  have fin : ∀ u v w : V3, (u.sm g).cross (v.sm g) = (w.sm g).sm (g * crQ q) → DvV (crQ q) (u.cross v) := fun u v w e => by
    rw [cross_sm, V3.sm_sm] at e
    have e2 : u.cross v = w.sm (crQ q) := by
      refine V3.sm_inj (Int.mul_pos g0 g0) (e.trans ?_)
      rw [V3.sm_sm]
      congr 1
      grind
    rw [e2]
    exact ⟨Int.dvd_mul_right _ _, Int.dvd_mul_right _ _, Int.dvd_mul_right _ _⟩
  exact ⟨fin _ _ _ r1, fin _ _ _ r2, fin _ _ _ r3⟩
theorem tab_gcd {q : Q} (h : ¬ q = ⟨0, 0, 0, 0⟩) : gT (crQ q) (tabM q) = 1 := lowT_gcd (sq_pos h) _
theorem st_tab {q : Q} (h : ¬ q = ⟨0, 0, 0, 0⟩) (v : V3) : stB q v = true ↔ DvV (crQ q) ((tabM q).app v) := by
  have hp := sq_pos h
  obtain ⟨a1, a2⟩ := lowT_back hp (rotM q)
  have g0 := gT_pos (rotM q) hp
  have c1 : gT q.sq (rotM q) * crQ q = q.sq := a1
  have a3 : (tabM q).sm (gT q.sq (rotM q)) = rotM q := a2
  unfold stB
  rw [show (rotM q).app v = ((tabM q).app v).sm (gT q.sq (rotM q)) by rw [← M3.sm_app, a3]]
  generalize gT q.sq (rotM q) = g at *
  rw [← c1]
  simp only [V3.sm, Bool.and_eq_true, decide_eq_true_eq, emod_scale g0]
  exact ⟨fun ⟨x, y, z⟩ => ⟨Int.dvd_of_emod_eq_zero x, Int.dvd_of_emod_eq_zero y, Int.dvd_of_emod_eq_zero z⟩, fun ⟨x, y, z⟩ => ⟨Int.emod_eq_zero_of_dvd x, Int.emod_eq_zero_of_dvd y, Int.emod_eq_zero_of_dvd z⟩⟩
theorem base_corner {q : Q} (h : ¬ q = ⟨0, 0, 0, 0⟩) {m : M3} (hb : Bs m) (hs : ∀ v, Sp3 m.a m.b m.c v ↔ stB q v = true) : m.a.x * m.b.y * m.c.z = crQ q := by
  have c0 := cr_pos h
  obtain ⟨n, hn⟩ := Int.eq_ofNat_of_zero_le (Int.le_of_lt c0)
  have hr := tab_rk h
  have hg := tab_gcd h
  have hs' : ∀ v, Sp3 m.a m.b m.c v ↔ DvV (crQ q) ((tabM q).app v) := fun v => (hs v).trans (st_tab h v)
  rw [hn] at hr hg hs' ⊢
  exact index (by omega) hr hg hb hs'
end HD

set_option Elab.async false
set_option linter.all false
set_option maxRecDepth 100000
/-! Ga: rows of whole numbers gathered by a column; their whole sums and their size -/
namespace HD
open PySem L2
abbrev F := Nat → Int
def rwD (b : Bool) (f : F) : D := if b then .tup [.int (f 0), .int (f 1), .int (f 2), .int (f 3)] else .tup [.int (f 0), .int (f 1), .int (f 2)]
def wid (b : Bool) : Nat := if b then 4 else 3
def lessF (v w : F) (k : Int) : F := fun i => v i - k * w i
theorem ix_rwD (b : Bool) (f : F) {c : Nat} (h : c < wid b) : ixD (rwD b f) (.int (c : Int)) = some (.v (.int (f c))) := by
  cases b
  · rcases (show c = 0 ∨ c = 1 ∨ c = 2 by unfold wid at h; simp at h; omega) with rfl | rfl | rfl <;> rfl
  · rcases (show c = 0 ∨ c = 1 ∨ c = 2 ∨ c = 3 by unfold wid at h; simp at h; omega) with rfl | rfl | rfl | rfl <;> rfl
theorem flat_rwD (b : Bool) (f : F) : D.flat (rwD b f) = true := by cases b <;> simp only [rwD, if_true, if_false, Bool.false_eq_true, flat_tup, flats_c, flats_n, flat_int, Bool.and_self]
theorem fdivD_n {x j : Int} {n : Nat} [b : SzC j n] (h0 : j ≠ 0) (h : n ≤ 8999) : fdivD (.int x) (.int j) = some (.v (.int (x.fdiv j))) := by
  have h3 := log2_le_of (x := j)
  show (if decide (j ≠ 0 ∧ j.natAbs.log2 < 9000) = true then _ else _) = _
  rw [if_pos (decide_eq_true ⟨h0, by omega⟩)]
/-! ### one step of dividing -/
theorem div_facts {l o : Int} (h : o ≠ 0) : l = o * l.fdiv o + l.fmod o ∧ (l.fmod o).natAbs < o.natAbs ∧ 0 ≤ o * l.fmod o ∧ (l.fmod o).natAbs + (l.fdiv o).natAbs * o.natAbs ≤ l.natAbs + 2 * o.natAbs ∧
    (0 ≤ l * o → (l.fmod o).natAbs + (l.fdiv o).natAbs * o.natAbs = l.natAbs) := by
  have e : l.fmod o = l - o * l.fdiv o := Int.fmod_def l o
  have hr := fmod_lt (f := l) h
  have e2 : (l.fdiv o).natAbs * o.natAbs = (o * l.fdiv o).natAbs := by rw [Int.natAbs_mul, Nat.mul_comm]
  have sg : (0 < o ∧ 0 ≤ l.fmod o) ∨ (o < 0 ∧ l.fmod o ≤ 0) := by
    rcases Int.lt_or_gt_of_ne h with h' | h'
    · right
      refine ⟨h', ?_⟩
      have h1 : l.fmod o = l % o + if 0 ≤ o ∨ o ∣ l then 0 else o := Int.fmod_eq_emod
      have h2 := Int.emod_nonneg l h
      have h3 := Int.emod_lt_of_neg l h'
      by_cases hd : 0 ≤ o ∨ o ∣ l
      · rw [if_pos hd] at h1
        rcases hd with hd | hd
        · omega
        · rw [Int.emod_eq_zero_of_dvd hd] at h1
          omega
      · rw [if_neg hd] at h1
        omega
    · left
      refine ⟨h', ?_⟩
      rw [Int.fmod_eq_emod_of_nonneg _ (by omega)]
      exact Int.emod_nonneg l h
  generalize l.fmod o = r at *
  generalize hq : l.fdiv o = q at *
  refine ⟨by omega, hr, ?_, ?_, fun hs => ?_⟩
  · rcases sg with ⟨a, b⟩ | ⟨a, b⟩
    · exact Int.mul_nonneg (by omega) b
    · exact Int.mul_nonneg_of_nonpos_of_nonpos (by omega) b
  · rw [e2]; omega
  · rw [e2]
    rcases sg with ⟨a, b⟩ | ⟨a, b⟩
    · have hl : 0 ≤ l := by
        rcases Int.lt_or_le l 0 with z | z
        · have := Int.mul_neg_of_neg_of_pos z a
          omega
        · exact z
      have hP : 0 ≤ o * q := by
        rcases Int.lt_or_le q 0 with z | z
        · have : o * q ≤ o * (-1) := Int.mul_le_mul_of_nonneg_left (by omega) (by omega)
          omega
        · exact Int.mul_nonneg (by omega) z
      omega
    · have hl : l ≤ 0 := by
        rcases Int.lt_or_le 0 l with z | z
        · have := Int.mul_neg_of_pos_of_neg z a
          omega
        · exact z
      have hP : o * q ≤ 0 := by
        rcases Int.lt_or_le q 0 with z | z
        · have : (-o) * (-q) ≥ (-o) * 1 := Int.mul_le_mul_of_nonneg_left (by omega) (by omega)
          rw [Int.neg_mul_neg] at this
          omega
        · exact Int.mul_nonpos_of_nonpos_of_nonneg (by omega) z
      omega
/-! ### whole sums of two rows -/
def Um (l o l' o' : F) : Prop := (∀ p q : Int, ∃ p' q' : Int, ∀ i, p * l i + q * o i = p' * l' i + q' * o' i) ∧ (∀ p q : Int, ∃ p' q' : Int, ∀ i, p * l' i + q * o' i = p' * l i + q' * o i)
theorem Um.refl (l o : F) : Um l o l o := ⟨fun p q => ⟨p, q, fun _ => rfl⟩, fun p q => ⟨p, q, fun _ => rfl⟩⟩
theorem Um.trans {a b c d e f : F} (h : Um a b c d) (k : Um c d e f) : Um a b e f := by
  refine ⟨fun p q => ?_, fun p q => ?_⟩
  · obtain ⟨p1, q1, h1⟩ := h.1 p q
    obtain ⟨p2, q2, h2⟩ := k.1 p1 q1
    exact ⟨p2, q2, fun i => (h1 i).trans (h2 i)⟩
  · obtain ⟨p1, q1, h1⟩ := k.2 p q
    obtain ⟨p2, q2, h2⟩ := h.2 p1 q1
    exact ⟨p2, q2, fun i => (h1 i).trans (h2 i)⟩
theorem Um.step (l o : F) (k : Int) : Um l o o (lessF l o k) :=
  ⟨fun p q => ⟨q + p * k, p, fun i => by simp only [lessF]; grind⟩, fun p q => ⟨q, p - q * k, fun i => by simp only [lessF]; grind⟩⟩
theorem Um.neg (l o : F) : Um l o (fun i => 0 - l i) o :=
  ⟨fun p q => ⟨-p, q, fun i => by grind⟩, fun p q => ⟨-p, q, fun i => by grind⟩⟩
/-- size of a row -/
def Le (f : F) (K : Nat) : Prop := ∀ i, (f i).natAbs ≤ K
theorem Le.sz {f : F} {K n : Nat} (h : Le f K) (hn : K < 2 ^ n) (i : Nat) : SzC (f i) n := ⟨Nat.lt_of_le_of_lt (h i) hn⟩
structure Gi (c K C : Nat) (l o : F) : Prop where
  s : 0 ≤ l c * o c
  p : ∀ i, (l i).natAbs * (o c).natAbs + (o i).natAbs * (l c).natAbs ≤ K
  ll : Le l K
  oo : Le o K
  lc : (l c).natAbs ≤ C
  oc : (o c).natAbs ≤ C
theorem less_le (v w : F) (k : Int) (i : Nat) : (lessF v w k i).natAbs ≤ (v i).natAbs + k.natAbs * (w i).natAbs := by
  have : (k * w i).natAbs = k.natAbs * (w i).natAbs := Int.natAbs_mul _ _
  unfold lessF
  omega
theorem less_pot {v w : F} {k : Int} {c i r L : Nat} (h : r + k.natAbs * (w c).natAbs ≤ L) : (w i).natAbs * r + (lessF v w k i).natAbs * (w c).natAbs ≤ (v i).natAbs * (w c).natAbs + (w i).natAbs * L := by
  have h1 := Nat.mul_le_mul_right (w c).natAbs (less_le v w k i)
  rw [Nat.add_mul] at h1
  have h2 := Nat.mul_le_mul_left (w i).natAbs h
  rw [Nat.mul_add] at h2
  have e : k.natAbs * (w i).natAbs * (w c).natAbs = (w i).natAbs * (k.natAbs * (w c).natAbs) := by
    rw [Nat.mul_comm k.natAbs (w i).natAbs, Nat.mul_assoc]
  omega
theorem Gi.step {c K C : Nat} {l o : F} (h : Gi c K C l o) (h0 : o c ≠ 0) : Gi c K C o (lessF l o ((l c).fdiv (o c))) ∧ (lessF l o ((l c).fdiv (o c)) c).natAbs < (o c).natAbs := by
  obtain ⟨f1, f2, f3, f4, f5⟩ := div_facts (l := l c) h0
  have er : lessF l o ((l c).fdiv (o c)) c = (l c).fmod (o c) := by
    have : (l c).fdiv (o c) * o c = o c * (l c).fdiv (o c) := Int.mul_comm _ _
    unfold lessF
    omega
  have pot : ∀ i, (o i).natAbs * (lessF l o ((l c).fdiv (o c)) c).natAbs + (lessF l o ((l c).fdiv (o c)) i).natAbs * (o c).natAbs ≤ K := fun i => by
    rw [er]
    exact Nat.le_trans (less_pot (Nat.le_of_eq (f5 h.s))) (h.p i)
  refine ⟨⟨?_, pot, h.oo, fun i => ?_, h.oc, ?_⟩, by rw [er]; exact f2⟩
  · rw [er]; exact f3
  · have h1 := pot i
    have h2 : (lessF l o ((l c).fdiv (o c)) i).natAbs * 1 ≤ (lessF l o ((l c).fdiv (o c)) i).natAbs * (o c).natAbs := Nat.mul_le_mul_left _ (by omega)
    omega
  · rw [er]
    have := h.oc
    omega
/-- the first step, whatever the signs -/
theorem Gi.start {c M C : Nat} {l o : F} (hl : Le l M) (ho : Le o M) (lc : (l c).natAbs ≤ C) (oc : (o c).natAbs ≤ C) (h0 : o c ≠ 0) : Gi c (4 * M * C + M) C o (lessF l o ((l c).fdiv (o c))) ∧ (lessF l o ((l c).fdiv (o c)) c).natAbs < (o c).natAbs := by
  obtain ⟨f1, f2, f3, f4, f5⟩ := div_facts (l := l c) h0
  have er : lessF l o ((l c).fdiv (o c)) c = (l c).fmod (o c) := by
    have : (l c).fdiv (o c) * o c = o c * (l c).fdiv (o c) := Int.mul_comm _ _
    unfold lessF
    omega
  have pot : ∀ i, (o i).natAbs * (lessF l o ((l c).fdiv (o c)) c).natAbs + (lessF l o ((l c).fdiv (o c)) i).natAbs * (o c).natAbs ≤ 4 * M * C + M := fun i => by
    rw [er]
    refine Nat.le_trans (less_pot f4) ?_
    have h1 : (l i).natAbs * (o c).natAbs ≤ M * C := Nat.mul_le_mul (hl i) oc
    have h2 : (o i).natAbs * ((l c).natAbs + 2 * (o c).natAbs) ≤ M * (3 * C) := Nat.mul_le_mul (ho i) (by omega)
    have h3 : M * (3 * C) = 3 * (M * C) := by rw [Nat.mul_left_comm]
    have h4 : 4 * M * C = 4 * (M * C) := Nat.mul_assoc _ _ _
    omega
  refine ⟨⟨?_, pot, fun i => ?_, fun i => ?_, oc, ?_⟩, by rw [er]; exact f2⟩
  · rw [er]; exact f3
  · have := ho i
    omega
  · have h1 := pot i
    have h2 : (lessF l o ((l c).fdiv (o c)) i).natAbs * 1 ≤ (lessF l o ((l c).fdiv (o c)) i).natAbs * (o c).natAbs := Nat.mul_le_mul_left _ (by omega)
    omega
  · rw [er]
    omega
theorem div_sz {l o : Int} {n m : Nat} (h0 : o ≠ 0) (h : l.natAbs < 2 ^ n) (h2 : o.natAbs < 2 ^ n) (hm : n + 2 ≤ m) : SzC (l.fdiv o) m := by
  obtain ⟨f1, f2, f3, f4, f5⟩ := div_facts (l := l) h0
  have h1 : (l.fdiv o).natAbs * 1 ≤ (l.fdiv o).natAbs * o.natAbs := Nat.mul_le_mul_left _ (by omega)
  refine SzC.mono (m := n + 2) ⟨?_⟩ hm
  have : (2 : Nat) ^ (n + 2) = 4 * 2 ^ n := by rw [Nat.pow_add, Nat.mul_comm]
  omega
/-! ### whole sums of three rows -/
def SmF (a b c f : F) : Prop := ∃ p q r : Int, ∀ i, f i = p * a i + q * b i + r * c i
theorem SmF.um1 {a b c a' b' f : F} (h : Um a b a' b') : SmF a b c f ↔ SmF a' b' c f := by
  constructor
  · rintro ⟨p, q, r, e⟩
    obtain ⟨p', q', k⟩ := h.1 p q
    exact ⟨p', q', r, fun i => by rw [e i, k i]⟩
  · rintro ⟨p, q, r, e⟩
    obtain ⟨p', q', k⟩ := h.2 p q
    exact ⟨p', q', r, fun i => by rw [e i, k i]⟩
theorem SmF.swap {a b c f : F} : SmF a b c f ↔ SmF a c b f := by
  constructor
  · rintro ⟨p, q, r, e⟩
    exact ⟨p, r, q, fun i => by rw [e i]; omega⟩
  · rintro ⟨p, q, r, e⟩
    exact ⟨p, r, q, fun i => by rw [e i]; omega⟩
theorem SmF.um2 {a b c a' c' f : F} (h : Um a c a' c') : SmF a b c f ↔ SmF a' b c' f := by
  rw [SmF.swap, SmF.um1 h, SmF.swap]
theorem SmF.rot {a b c f : F} : SmF a b c f ↔ SmF b c a f := by
  constructor
  · rintro ⟨p, q, r, e⟩
    exact ⟨q, r, p, fun i => by rw [e i]; omega⟩
  · rintro ⟨p, q, r, e⟩
    exact ⟨r, p, q, fun i => by rw [e i]; omega⟩
theorem SmF.um3 {a b c b' c' f : F} (h : Um b c b' c') : SmF a b c f ↔ SmF a b' c' f := by
  rw [SmF.rot, SmF.um1 h, ← SmF.rot]
theorem pow_bnd (a c : Nat) : 4 * 2 ^ a * 2 ^ c + 2 ^ a < 2 ^ (a + c + 3) := by
  have h1 : (2 : Nat) ^ (a + c + 3) = 8 * (2 ^ a * 2 ^ c) := by rw [Nat.pow_add, Nat.pow_add]; omega
  have h2 : 4 * 2 ^ a * 2 ^ c = 4 * (2 ^ a * 2 ^ c) := Nat.mul_assoc _ _ _
  have h3 : 2 ^ a * 1 ≤ 2 ^ a * 2 ^ c := Nat.mul_le_mul_left _ (Nat.pow_pos (by decide))
  have h4 : 0 < 2 ^ a := Nat.pow_pos (by decide)
  omega
theorem Le.mono {f : F} {K L : Nat} (h : Le f K) (hl : K ≤ L) : Le f L := fun i => Nat.le_trans (h i) hl
theorem le_pow {f : F} {a : Nat} (h : ∀ i, SzC (f i) a) : Le f (2 ^ a) := fun i => Nat.le_of_lt (h i).lt
def sgF (c : Nat) (f : F) : F := if f c < 0 then fun i => 0 - f i else f
theorem sg_um (c : Nat) (l o : F) : Um l o (sgF c l) o := by
  unfold sgF
  split
  · exact Um.neg l o
  · exact Um.refl l o
theorem sg_nn (c : Nat) (f : F) : 0 ≤ sgF c f c := by
  unfold sgF
  split
  · show 0 ≤ 0 - f c
    omega
  · omega
theorem sg_le {c K : Nat} {f : F} (h : Le f K) : Le (sgF c f) K := fun i => by
  have := h i
  unfold sgF
  split
  · show (0 - f i).natAbs ≤ K
    omega
  · exact this
theorem sg_c {c C : Nat} {f : F} (h : (f c).natAbs ≤ C) : (sgF c f c).natAbs ≤ C := by
  unfold sgF
  split
  · show (0 - f c).natAbs ≤ C
    omega
  · exact h
/-! spots as rows -/
def v3F (v : V3) : F := fun i => if i = 0 then v.x else if i = 1 then v.y else if i = 2 then v.z else 0
def q4F (t : Int) (v : V3) : F := fun i => if i = 0 then t else if i = 1 then v.x else if i = 2 then v.y else if i = 3 then v.z else 0
def o3F (f : F) : V3 := ⟨f 0, f 1, f 2⟩
def o4F (f : F) : V3 := ⟨f 1, f 2, f 3⟩
theorem rw_v3 (v : V3) : rwD false (v3F v) = v.tp := rfl
theorem rw_q4 (t : Int) (v : V3) : rwD true (q4F t v) = .tup [.int t, .int v.x, .int v.y, .int v.z] := rfl
theorem rw_o3 (f : F) : rwD false f = (o3F f).tp := rfl
theorem rw_o4 (f : F) : rwD true f = .tup [.int (f 0), .int (f 1), .int (f 2), .int (f 3)] := rfl
theorem v3_sz {v : V3} {a : Nat} [h : VC v a] (i : Nat) : SzC (v3F v i) a := by
  unfold v3F
  split
  · exact h.x
  · split
    · exact h.y
    · split
      · exact h.z
      · exact ⟨Nat.pow_pos (by decide)⟩
theorem q4_sz {t : Int} {v : V3} {a : Nat} [h : VC v a] (ht : SzC t a) (i : Nat) : SzC (q4F t v i) a := by
  unfold q4F
  split
  · exact ht
  · split
    · exact h.x
    · split
      · exact h.y
      · split
        · exact h.z
        · exact ⟨Nat.pow_pos (by decide)⟩
theorem sp_v3 {a b c v : V3} : Sp3 a b c v ↔ SmF (v3F a) (v3F b) (v3F c) (v3F v) := by
  constructor
  · rintro ⟨p, q, r, rfl⟩
    refine ⟨p, q, r, fun i => ?_⟩
    unfold v3F comb
    by_cases h0 : i = 0
    · simp only [h0, if_true]
    · by_cases h1 : i = 1
      · simp only [h1, if_true, if_false, Nat.one_ne_zero]
      · by_cases h2 : i = 2
        · subst h2; rfl
        · simp only [h0, h1, h2, if_false, Int.mul_zero, Int.add_zero]
  · rintro ⟨p, q, r, e⟩
    exact ⟨p, q, r, V3.ext' (e 0) (e 1) (e 2)⟩
theorem sp_o3 {a b c : F} {v : V3} : Sp3 (o3F a) (o3F b) (o3F c) v ↔ ∃ p q r : Int, ∀ i, i < 3 → v3F v i = p * a i + q * b i + r * c i := by
  constructor
  · rintro ⟨p, q, r, rfl⟩
    refine ⟨p, q, r, fun i hi => ?_⟩
    rcases (show i = 0 ∨ i = 1 ∨ i = 2 by omega) with rfl | rfl | rfl <;> rfl
  · rintro ⟨p, q, r, e⟩
    exact ⟨p, q, r, V3.ext' (e 0 (by decide)) (e 1 (by decide)) (e 2 (by decide))⟩
end HD

set_option Elab.async false
set_option linter.all false
set_option maxRecDepth 100000
/-! Tx: texts by their signs' numbers; whole numbers as texts -/
namespace HD
open PySem L2
abbrev tx (l : List Nat) : D := .str (SX.S l)
theorem len_S (l : List Nat) : (SX.S l).length = l.length := SX.S_len l
theorem cut_S (l : List Nat) (lo hi : Option Int) : cutS (SX.S l) lo hi = SX.S (cutG l lo hi) := by
  unfold cutS cutG
  rw [len_S]
theorem slD_S {l : List Nat} (h : l.length ≤ 5000) (lo hi : Option Int) : slD (tx l) lo hi = some (.v (tx (cutG l lo hi))) := by
  have e : slD (tx l) lo hi = if (SX.S l).length ≤ sizeLine then some (.v (.str (cutS (SX.S l) lo hi))) else none := by unfold slD; rfl
  have z : sizeLine = 16777216 := by decide
  rw [e, len_S, if_pos (by omega), cut_S]
theorem lenC_S {l : List Nat} (h : l.length ≤ 5000) : lenC [tx l] = some (.v (.int l.length)) := by
  have z : sizeLine = 16777216 := by decide
  have e : lenC [tx l] = (if (SX.S l).length ≤ sizeLine then some (SX.S l).length else none).map fun n => .v (.int (n : Nat)) := rfl
  rw [e, len_S, if_pos (by omega)]
  rfl
theorem seqD_S (l : List Nat) : seqD (tx l) = some (.ok (l.map fun c => tx [c]) false) := rfl
theorem ix_S {c : Nat} {l : List Nat} (h : (c :: l).length ≤ 5000) : ixD (tx (c :: l)) (.int 0) = some (.v (tx [c])) := by
  have z : sizeLine = 16777216 := by decide
  have e : ixD (tx (c :: l)) (.int 0) = if (SX.S (c :: l)).length ≤ sizeLine then (atI (c :: l) 0).map fun c => .v (.str ⟨#[c]⟩) else none := rfl
  have e2 : atI (c :: l) 0 = some c := by
    show atI (c :: l) ((0 : Nat) : Int) = _
    rw [atI_nat]
    rfl
  rw [e, len_S, if_pos (by omega), e2]
  rfl
theorem sok_S {l : List Nat} (h : ∀ c ∈ l, c < 1114112) : SOk (SX.S l) := ⟨h⟩
theorem eqv_S (a b : List Nat) : D.eqv (tx a) (tx b) = decide (a = b) := by
  have e : D.eqv (tx a) (tx b) = (SX.S a == SX.S b) := by unfold D.eqv; rfl
  rw [e, SX.S_beq_eq]
theorem sh_S {a : List Nat} (ha : ∀ c ∈ a, c < 1114112) (n : Nat) : D.sh n (tx a) = true := by
  have := (sok_S ha).py
  cases n <;> exact this
theorem eqD_S {a b : List Nat} (ha : ∀ c ∈ a, c < 1114112) (hb : ∀ c ∈ b, c < 1114112) : eqD (tx a) (tx b) = some (.v (.bl (decide (a = b)))) := by
  unfold eqD
  rw [sh_S ha, sh_S hb, eqv_S]
  rfl
theorem neD_S {a b : List Nat} (ha : ∀ c ∈ a, c < 1114112) (hb : ∀ c ∈ b, c < 1114112) : neD (tx a) (tx b) = some (.v (.bl (!decide (a = b)))) := by
  unfold neD
  rw [sh_S ha, sh_S hb, eqv_S]
  rfl
/-! ### whole numbers -/
def decL (i : Int) : List Nat := if i < 0 then 45 :: TL.numL i.natAbs else TL.numL i.natAbs
theorem dec_S (i : Int) : Str.ofString (toString i) = SX.S (decL i) := by
  unfold decL
  by_cases h : i < 0
  · rw [if_pos h, PyProof.Rows.toString_neg h]
    refine TL.ext_tl ?_
    show (Str.ofString ("-" ++ toString (0 - i))).cps.toList = 45 :: TL.numL i.natAbs
    have e : (0 - i) = ((i.natAbs : Nat) : Int) := by omega
    rw [PyProof.Rows.signs_ofString, String.toList_append, List.map_append, e, ← PyProof.Rows.signs_ofString (toString ((i.natAbs : Nat) : Int))]
    have e2 := TL.tl_num i.natAbs
    show _ ++ TL.tl (Str.ofString (toString ((i.natAbs : Nat) : Int))) = _
    rw [e2]
    rfl
  · rw [if_neg h]
    have e : i = ((i.natAbs : Nat) : Int) := by omega
    conv => lhs; rw [e]
    rw [← TL.tl_num, SX.S_tl]
theorem num_head : ∀ n : Nat, n ≠ 0 → ∃ c l, TL.numL n = c :: l ∧ c ≠ 48 := by
  intro n
  induction n using Nat.strongRecOn with
  | _ n ih =>
    intro h0
    by_cases h : n < 10
    · exact ⟨48 + n, [], TL.numL_lt h, by omega⟩
    · obtain ⟨c, l, e, hc⟩ := ih (n / 10) (by omega) (by omega)
      exact ⟨c, l ++ [48 + n % 10], by rw [TL.numL_step (by omega), e]; rfl, hc⟩
theorem num_zero : TL.numL 0 = [48] := TL.numL_lt (by decide)
theorem num_cons (n : Nat) : ∃ c l, TL.numL n = c :: l ∧ (c = 48 → n = 0) := by
  by_cases h : n = 0
  · subst h
    exact ⟨48, [], num_zero, fun _ => rfl⟩
  · obtain ⟨c, l, e, hc⟩ := num_head n h
    exact ⟨c, l, e, fun h => absurd h hc⟩
theorem num_dig {n c : Nat} (h : c ∈ TL.numL n) : 48 ≤ c ∧ c ≤ 57 := TL.numL_digits n c h
theorem dec_sign {i : Int} {c : Nat} (h : c ∈ decL i) : c = 45 ∨ (48 ≤ c ∧ c ≤ 57) := by
  unfold decL at h
  split at h
  · rcases List.mem_cons.1 h with h | h
    · exact .inl h
    · exact .inr (num_dig h)
  · exact .inr (num_dig h)
theorem dec_len {i : Int} {k : Nat} (hk : 0 < k) (h : i.natAbs < 10 ^ k) : (TL.numL i.natAbs).length ≤ k ∧ (decL i).length ≤ k + 1 := by
  have := TL.numL_len hk h
  refine ⟨this, ?_⟩
  unfold decL
  split
  · exact Nat.succ_le_succ this
  · omega
theorem dec_int {i : Int} (h : (TL.numL i.natAbs).length ≤ 600) : intC [tx (decL i)] = some (.v (.int i)) := by
  have e : intC [tx (decL i)] = if (SX.S (decL i)).length ≤ 640 then (PySem.intText? (SX.S (decL i))).map fun n => .v (.int n) else none := rfl
  have l : (decL i).length ≤ 601 := by
    unfold decL
    split
    · exact Nat.succ_le_succ h
    · omega
  rw [e, len_S, if_pos (by omega)]
  have k : PySem.intText? (SX.S (decL i)) = some i := by
    by_cases hi : i < 0
    · have r := PySem.intText_neg (x := SX.S (decL i)) (cs := TL.numL i.natAbs) (by show decL i = _; unfold decL; rw [if_pos hi]) (TL.numL_digits _) (TL.numL_ne _) (by rw [len_S]; omega)
      rw [r, TL.numL_val]
      congr 1
      omega
    · have d : decL i = TL.numL i.natAbs := by unfold decL; rw [if_neg hi]
      have r := PySem.intText_digits (x := SX.S (decL i)) (by show NumText.AllDigits (decL i); rw [d]; exact TL.numL_digits _) (by show decL i ≠ []; rw [d]; exact TL.numL_ne _) (by rw [len_S]; omega)
      rw [r]
      show some ((NumText.digitsVal (decL i) : Nat) : Int) = some i
      rw [d, TL.numL_val]
      congr 1
      omega
  rw [k]
  rfl
theorem dec_inj {i j : Int} (h : decL i = decL j) : i = j := by
  unfold decL at h
  by_cases hi : i < 0 <;> by_cases hj : j < 0
  · rw [if_pos hi, if_pos hj] at h
    have := TL.numL_inj (List.cons.inj h).2
    omega
  · rw [if_pos hi, if_neg hj] at h
    have : 45 ∈ TL.numL j.natAbs := by rw [← h]; exact List.mem_cons_self ..
    have := num_dig this
    omega
  · rw [if_neg hi, if_pos hj] at h
    have : 45 ∈ TL.numL i.natAbs := by rw [h]; exact List.mem_cons_self ..
    have := num_dig this
    omega
  · rw [if_neg hi, if_neg hj] at h
    have := TL.numL_inj h
    omega
theorem dig_in {c : Nat} (h : 48 ≤ c ∧ c ≤ 57) : notInD (tx [c]) (.str "0123456789") = some (.v (.bl false)) := by
  rcases (show c = 48 ∨ c = 49 ∨ c = 50 ∨ c = 51 ∨ c = 52 ∨ c = 53 ∨ c = 54 ∨ c = 55 ∨ c = 56 ∨ c = 57 by omega) with rfl | rfl | rfl | rfl | rfl | rfl | rfl | rfl | rfl | rfl <;> kernel_rfl
theorem dig_in' {c : Nat} (h : 48 ≤ c ∧ c ≤ 57) : inD (tx [c]) (.str "0123456789") = some (.v (.bl true)) := by
  rcases (show c = 48 ∨ c = 49 ∨ c = 50 ∨ c = 51 ∨ c = 52 ∨ c = 53 ∨ c = 54 ∨ c = 55 ∨ c = 56 ∨ c = 57 by omega) with rfl | rfl | rfl | rfl | rfl | rfl | rfl | rfl | rfl | rfl <;> kernel_rfl
/-! ### split, join -/
theorem split_joined {c : Nat} {parts : List (List Nat)} (hc : c < 256) (hne : parts ≠ []) (h : ∀ p ∈ parts, c ∉ p) (hl : (TL.joinL [c] parts).length ≤ 5000) :
    splitD (Txt.join (SX.S [c]) (parts.map SX.S)) (tx [c]) = some (.n (.lst (parts.map tx))) := by
  have z : sizeLine = 16777216 := by decide
  rw [SX.join_S]
  have e : splitD (SX.S (TL.joinL [c] parts)) (tx [c]) = if ((SX.S [c]).length == 0) = false ∧ (SX.S (TL.joinL [c] parts)).length + 2 ≤ sizeLine then some (.n (.lst ((Txt.split (SX.S (TL.joinL [c] parts)) (SX.S [c])).map .str))) else none := rfl
  rw [e, len_S (TL.joinL [c] parts), if_pos ⟨rfl, by omega⟩, SX.split_S (List.cons_ne_nil _ _) (by simp [hc]), TL.spl_join hne h, List.map_map]
  rfl
end HD

set_option Elab.async false
set_option linter.all false
set_option maxRecDepth 100000
set_option maxHeartbeats 4000000
/-! HDq: exceptions whose own __init__ calls the base's and puts one field; the field read later. -/
namespace HD
open PySem PySem.Spec PyProof.Rows L2
/-- what such an __init__ promises -/
def spX (K : PySem.W.Frag) (fld : Str) : Sp := fun vs H Q _ => ∃ (a C : Addr) (v : V), vs = [V.ref a, v] ∧ OexC K C ∧ PySem.W.findIn K (.ref C) fld = some none ∧ H a = some (exo a C none) ∧
  ∀ dx, H dx = none → dx ≠ a → Q .non (upd (upd H dx (exd dx [(fld, v)])) a (exo a C (some dx)))
/-- S is an own class whose __init__ is that of ValueError -/
def cinB (K : PySem.W.Frag) (S : Str) : Bool := decide (PySem.W.specialIn K (.ref (He.ga K S)) "__getattribute__" = some (some (.builtin "type.__getattribute__"))) && (PySem.W.readsIn K (He.ga K S) (.type "type") &&
  (match PySem.W.findCls K (.ref (He.ga K S)) (.type "type") "__init__" with | some (.val (.builtin z)) => z == "ValueError.__init__" | _ => false))
/-- C is an own class of exceptions, its instances having a dict; fld is no attribute of it -/
def oexcB (K : PySem.W.Frag) (C : Addr) : Bool := match K.lookup C with
  | some ⟨.type "type", _, .cls cd, sl⟩ => (match cd.mro, sl.toList with
    | .ref C' :: bm, [_, _, _, _, some (.builtin n), _] => C' == C && (n == "ValueError.__new__" && (!cd.hasDel && (cd.hasDict && PySem.HandSPX.refsVE bm)))
    | _, _ => false)
  | _ => false
theorem oexcB_ok {K : PySem.W.Frag} {C : Addr} (z : oexcB K C = true) : ∃ nm q N bs bm sn sub ab col dd k0 k1 k2 k3 k5, K.lookup C = some (excClassObj nm q C N bs bm true sn sub ab col dd k0 k1 k2 k3 k5 "ValueError.__new__") ∧ PySem.HandSPX.refsVE bm = true := by
  unfold oexcB at z
  split at z
  case h_2 => cases z
  rename_i dd cd sl look
  split at z
  case h_2 => cases z
  rename_i me up s0 s1 s2 s3 nw s5 em es
  obtain ⟨y1, y⟩ := Bool.and_eq_true_iff.1 z
  obtain ⟨y2, y⟩ := Bool.and_eq_true_iff.1 y
  obtain ⟨y3, y⟩ := Bool.and_eq_true_iff.1 y
  obtain ⟨y4, y5⟩ := Bool.and_eq_true_iff.1 y
  cases cd with
  | mk c1 c2 c3 c4 c5 c6 c7 c8 c9 c10 c11 =>
    have f1 : me = C := eq_of_beq y1
    have f2 : nw = "ValueError.__new__" := eq_of_beq y2
    have f3 : c11 = false := by simpa using y3
    have f4 : c6 = true := y4
    have f5 : c3 = .ref me :: up := em
    have f6 : sl = #[s0, s1, s2, s3, some (.builtin nw), s5] := by
      rw [← Array.toArray_toList (xs := sl), es]
    rw [f3, f4, f5, f6, f1, f2] at look
    exact ⟨c1, c5, c4, c2, up, c7, c8, c9, c10, dd, s0, s1, s2, s3, s5, look, y5⟩
def oexB (K : PySem.W.Frag) (C fld : Str) : Bool := oexcB K (He.ga K C) && (decide (PySem.W.findIn K (.ref (He.ga K C)) "__setattr__" = some (some (.builtin "object.__setattr__"))) && (decide (PySem.W.subIn K (.ref (He.ga K C)) (.type "BaseException") = some true) &&
  (decide (PySem.W.typeIn K (.ref (He.ga K C)) = some (.type "type")) && (PySem.W.keepIn K (.ref (He.ga K C)) && decide (PySem.W.findIn K (.ref (He.ga K C)) fld = some none)))))
theorem oexB_ok {K : PySem.W.Frag} {C fld : Str} (q : oexB K C fld = true) : OexC K (He.ga K C) ∧ PySem.W.findIn K (.ref (He.ga K C)) fld = some none := by
  unfold oexB at q
  simp only [Bool.and_eq_true, decide_eq_true_eq] at q
  obtain ⟨q1, q2, q3, q4, q5, q6⟩ := q
  exact ⟨⟨oexcB_ok q1, q2, q3, q4, q5⟩, q6⟩
/-- and its __init__ is the def that stands there -/
def xiB (K : PySem.W.Frag) (C fld : Str) : Bool := oexB K C fld && (decide (PySem.W.findIn K (.ref (He.ga K C)) "__init__" = some (some (.ref (He.ma K (He.ga K C) "__init__")))) && decide (PySem.W.typeIn K (.ref (He.ma K (He.ga K C) "__init__")) = some (.type "function")))
section
variable {X : Cx} {S : Str} {e : Expr} {es : List Expr} {ta : TA} {p1 p2 pos : Pos}
theorem pe_cinit {pl : Sem Bool} (hg : Gl X S) (hm : X.mg S = some (.ref (He.ga X.K S))) (hB : cinB X.K S = true) (ha : PA X (e :: es) ta) (hdb : (S == ("__debug__" : Str)) = false := by decide)
    (hc : MethAt X pl (.Name S p1) "__init__" p2 (e :: es) pos := by rfl)
    (he : starEach (e :: es) X.env = (false, eval e X.env) :: starEach es X.env := by rfl) (hpl : (backTo pos (starEach es X.env)).any (·.1) = false := by rfl) :
    PE X (.Call (.Attribute (.Name S p1) "__init__" p2) (e :: es) [] pos) (tVeI X.K ta) where
  run pn x σ H Q I h := by
    obtain ⟨y1, y⟩ := Bool.and_eq_true_iff.1 hB
    obtain ⟨y2, y3⟩ := Bool.and_eq_true_iff.1 y
    have found : PySem.W.findCls X.K (.ref (He.ga X.K S)) (.type "type") "__init__" = some (.val (.builtin "ValueError.__init__")) := by
      split at y3
      case h_2 => cases y3
      rename_i z ez
      rw [ez, eq_of_beq y3]
    refine PySem.W.methodCall_KW (ld_glob I hg hm (PySem.W.method_cls I.kIn (of_decide_eq_true y1) (PySem.W.cls_value I.kIn y2 found (by decide +kernel) ?_)) hdb) hc
    refine callWith_method1 (thn (ha.run pos pn _ σ H _ (I.tok _) h) ?_) he hpl
    rintro us y ⟨_, G, J, rs, a, C, ws, rfl, few, T, fresh, q⟩
    cases rs with
    | cons r0 rr =>
      cases r0
      exact oinit_ok T J fresh (by rw [← rr.length, sizeLine_eq]; omega) fun y' J' => ⟨.non, G, J', rfl, q⟩
end
section
variable {P : Program} {w : World} {K : PySem.W.Frag} {mg : Str → Option Value} {base : Heap} {f : Addr} {fd : FuncData} {x qual self par S fld m : Str} {params : Arguments} {scope : Scope} {k j : Nat} {p1 p2 p3 p4 q1 q2 q3 q4 q5 q6 : Pos}
theorem fn_xinit {ta : TA} {ce : Expr} (Fd : FunD K x qual params [.Expr ce q6, .Assign [.Attribute (.Name self p1) fld p2] (.Name par p4) p3] scope [] [] f fd) (Sc : FnScope [self, par] [self, par] scope)
    (hpe : ∀ (cdv : Value) (A : Around) (outer : List Env) (s : Shared) (H : Hp) (E : XK), PE (cxOf (L2.CX P w) P w K mg base [self, par] qual scope f cdv A outer s H E) ce (tVeI K ta))
    (hta : ∀ (a : Addr) (v : V) (H : Hp) (Q : List V → Hp → Prop), Q [.ref a, .str m] H → ta [some (.ref a), some v] H Q)
    (hs1 : ∀ env : Env, swapsWith ce none q6.line env = pure false) (hs2 : ∀ env : Env, swapsWith (.Name par p4) (some (.Attribute (.Name self p1) fld p2)) p3.line env = pure false)
    (hv : Vis scope self) (hd1 : (self == ("__debug__" : Str)) = false) (hd2 : (self == ("__classdict__" : Str)) = false)
    (hv' : Vis scope par) (hd1' : (par == ("__debug__" : Str)) = false) (hd2' : (par == ("__classdict__" : Str)) = false) : FnOk P w K mg base (L2.CX P w) (k + 1) f fd [self, par] (spX K fld) := by
  refine Fd.ok Sc (fun vs H Q E ⟨a, C, v, e1, _⟩ => by rw [e1]; rfl) fun cdv A outer s H vs Q E hr ⟨a, C, v, e1, T, hno, ha, q⟩ => ?_
  subst e1
  have v1 : PE (cxOf (L2.CX P w) P w K mg base [self, par] qual scope f cdv A outer s H E) (.Name self p1) _ := pe_var (i := 0) rfl hv hd1 hd2
  have v2 : PE (cxOf (L2.CX P w) P w K mg base [self, par] qual scope f cdv A outer s H E) (.Name par p4) _ := pe_var (i := 1) rfl hv' hd1' hd2'
  refine ⟨_, pss_cons (ps_expr (hpe cdv A outer s H E) (hs1 _)) (pss_one (ps_ost v1 v2 (hs2 _))), ?_⟩
  refine hta a v H _ ⟨a, C, [.str m], rfl, by rw [List.length_cons, List.length_nil]; omega, T, ha, ?_⟩
  exact ⟨v, rfl, .ref a, rfl, a, C, rfl, T, hno, .inl ⟨ha, fun dx h1 h2 => q dx h1 h2⟩⟩
end
/-- exceptions of the class C are made with the field fld -/
def Xi (P : Program) (w : World) (K : PySem.W.Frag) (mg : Str → Option Value) (base : Heap) (C fld : Str) (k : Nat) : Prop :=
  ∃ f fd ps, FnOk P w K mg base (L2.CX P w) k f fd ps (spX K fld) ∧ OexC K (He.ga K C) ∧ PySem.W.findIn K (.ref (He.ga K C)) "__init__" = some (some (.ref f)) ∧ PySem.W.typeIn K (.ref f) = some (.type "function") ∧ mg C = some (.ref (He.ga K C)) ∧ Binds K fd ps [] ∧ PySem.W.findIn K (.ref (He.ga K C)) fld = some none
def cRaiseF (C fld : Str) (nm : List Nat) (f : Ev) : Sm := fun env => evx nm f env fun u env1 => some (.x (.exn C [(fld, u.d)]) env1)
section
variable {X : Cx} {W : WX} {e : Expr} {f : Ev} {nm : List Nat} {pos pos' p : Pos} {k : Nat} {C fld : Str}
theorem psd_raiseF (G : Xi X.prog X.w X.K X.mg X.base C fld k) (hc : X.calm = true) (tk : Takes X W) (hr : Room (k + 1) X.A) (hg : Gl X C) (ha : PD X W e f) (hdb : (C == ("__debug__" : Str)) = false := by decide)
    (he : starEach [e] X.env = (false, eval e X.env) :: starEach [] X.env := by rfl) (hpl : (backTo pos (starEach [] X.env)).any (·.1) = false := by rfl) :
    PSD X W (.Raise (some (.Call (.Name C p) [e] [] pos)) none pos') (cRaiseF C fld nm f) := by
  obtain ⟨fI, fd, ps, Fn, T, iC, tI, hm, hb, hno⟩ := G
  refine PS.weak (ps_raise hc tk (pmk_oex (ds := []) (dvs := []) T iC tI Fn hr hb .nil (fun pins σ H s e s' I c => tk e s' (XE.of_call I (fun _ _ _ h => h.elim) c)) hg hm (pa_cons ha pa_nil he) hdb he hpl)) fun D σ H ⟨H0s, H0, env, Hs, o, Fr, e, q⟩ => ?_
  unfold cRaiseF at e
  refine evx1 Fr e q fun v u env1 Hs1 H1 s1 F1 r1 e1 q1 => ?_
  refine ⟨by rw [List.length_cons, List.length_nil]; omega, fun a hn => ⟨a, He.ga X.K C, v, rfl, T, hno, upd_same, fun dx hd ne => ⟨rfl, dx, [(fld, v)], upd_same, ?_, ?_, ?_⟩⟩⟩
  · rw [upd_ne ne, upd_same]
  · rw [upd_ne ne] at hd
    exact hd
  · rw [upd_ne ne] at hd
    have eH : upd (del (upd (upd (upd H1 a (exo a (He.ga X.K C) none)) dx (exd dx [(fld, v)])) a (exo a (He.ga X.K C) (some dx))) a) dx (.xd [(fld, v)]) = upd H1 dx (.xd [(fld, v)]) := by
      funext b
      by_cases h1 : b = dx
      · rw [h1, upd_same, upd_same]
      · rw [upd_ne h1, upd_ne h1]
        by_cases h2 : b = a
        · rw [h2, del_same, hn]
        · rw [del_ne h2, upd_ne h2, upd_ne h1, upd_ne h2]
    rw [eH]
    have e2 := Option.some.inj e1
    subst e2
    have n1 : Hs1 dx = none := F1.sub.free hd
    have F2 := F1.ext' (Ext.laid (o := .xd [(fld, v)]) (Ext.refl F1.sub) hd)
    exact q1 _ (some dx) _ σ _ (same_upd n1) F2 ⟨C, [(fld, u.d)], rfl, rfl, .some upd_same (.cons (r1.mono (same_upd n1)) .nil)⟩
end
theorem mkXi {P : Program} {w : World} {K : PySem.W.Frag} {mg : Str → Option Value} {base : Heap} {C x qual fld : Str} {k : Nat} {fd : FuncData} {ps : List Str} {params : Arguments} {body : List Stmt} {scope : Scope}
    (F : FunD K x qual params body scope [] [] (He.ma K (He.ga K C) "__init__") fd) (ok : FnOk P w K mg base (L2.CX P w) k (He.ma K (He.ga K C) "__init__") fd ps (spX K fld)) (h : xiB K C fld = true) (hm : mg C = some (.ref (He.ga K C)))
    (hb : ∀ (kV doc pm : Value) (an : Option Addr) (cdv ct : Value) (us : List Value), us.length = ps.length → bindArgs (PySem.W.fnOf x qual params body scope .none kV doc pm an cdv ct) ⟨us, []⟩ = pure (ps.zip us)) : Xi P w K mg base C fld k := by
  unfold xiB at h
  simp only [Bool.and_eq_true, decide_eq_true_eq] at h
  obtain ⟨h1, h2, h3⟩ := h
  obtain ⟨T, hno⟩ := oexB_ok h1
  exact ⟨_, fd, ps, ok, T, h2, h3, hm, F.bindsN hb, hno⟩

/-! ### the field of an exception that was kept -/
/-- what the classes of tbl need for their field to be read -/
def xfcB (K : PySem.W.Frag) (C fld : Str) : Bool := xfB K (He.ga K C) && decide (PySem.W.findIn K (.ref (He.ga K C)) fld = some none)
def XfT (K : PySem.W.Frag) (fld : Str) (Cs : List Str) : Prop := ∀ C ∈ Cs, xfcB K C fld = true
def cXf (Cs : List Str) (fld : Str) (f : Ev) : Ev := fun env => bindR (f env) fun d => match d with
  | .exn C gs => if Cs.contains C then (gs.lookup fld).map .v else none
  | _ => none
theorem RepF.lookup {K : PySem.W.Frag} {H : Hp} {x : Str} {fs : List (Str × V)} {gs : List (Str × D)} (r : RepF K H fs gs) : ∀ {d : D}, gs.lookup x = some d → ∃ v, fs.lookup x = some v ∧ Rep K H v d := by
  induction fs generalizing gs with
  | nil =>
    intro d h
    cases r
    cases h
  | cons p fs ih =>
    intro d h
    cases r with
    | @cons f v _ d' gs' r1 r2 =>
      rw [List.lookup_cons] at h ⊢
      split at h
      · rename_i hb
        cases h
        exact ⟨v, rfl, r1⟩
      · exact ih r2 h
theorem pe_xfK {X : Cx} {e : Expr} {te : TE} {pos : Pos} {n : Str} (he : PE X e te) (hb : attributeBase e n X.env (eval e X.env) = eval e X.env := by rfl) :
    PE X (.Attribute e n pos) (fun σ H Q => te σ H fun x H1 => ∃ (a dd C : Addr) (fs : List (Str × V)) (v : V), x = .ref a ∧ XfC X.K C ∧ PySem.W.findIn X.K (.ref C) n = some none ∧ H1 a = some (Xv (.ref C) (some dd) a) ∧ H1 dd = some (.xd fs) ∧ fs.lookup n = some v ∧ Q v H1) where
  run pn s σ H Q I h := by
    refine attr_of hb (thn (he.run pn s σ H _ I h) ?_)
    rintro u x ⟨_, G, J, ru, a, dd, C, fs, v, rfl, T, own, atA, atD, look, q⟩
    cases ru
    obtain ⟨oe, od, inst, dict⟩ := exn_at J atA (by rintro _ ⟨⟩; exact ⟨fs, atD⟩)
    obtain ⟨o, rfl, get⟩ := dict dd rfl
    have obj : ObjOk X.prog X.w G x.heap dd (.xd fs) := J.hok dd _ atD
    obtain ⟨m, ns, rel⟩ := obj
    obtain ⟨o', get', has⟩ := lookIn_ns ns
    cases Option.some.inj (get'.symm.trans get)
    obtain ⟨w, hw, rw'⟩ := RelO.some_of (o := m n) (look ▸ rel n)
    exact HandSPX.exc_get J.kIn inst T.ga T.gg T.exC (PySem.W.findObj_own T.hdC own rfl (has n ▸ congrArg some hw)) (handed_of rw') ⟨v, G, J.tok _, rw', q⟩
section
variable {X : Cx} {W : WX} {a : Expr} {f : Ev} {fld : Str} {Cs : List Str} {pos : Pos}
theorem pd_xf (J : XfT X.K fld Cs) (ha : PD X W a f) (hb : attributeBase a fld X.env (eval a X.env) = eval a X.env := by rfl) : PD X W (.Attribute a fld pos) (cXf Cs fld f) :=
  pd_of (pe_xfK ha hb) fun σ H Q env Hs r F e q => rd_bind F e q fun v d Hs1 H1 a1 F1 r1 e1 q1 => by
    split at e1
    · rename_i C gs
      split at e1
      case isFalse => cases e1
      case isTrue hc =>
        cases hl : gs.lookup fld with
        | none => rw [hl] at e1; cases e1
        | some d =>
          rw [hl] at e1
          have e2 := Option.some.inj e1
          subst e2
          have j := J C (List.contains_iff_mem.mp hc)
          unfold xfcB at j
          simp only [Bool.and_eq_true, decide_eq_true_eq] at j
          obtain ⟨j1, j2⟩ := j
          cases r1 with
          | @exn aa dd _ _ h4 r2 =>
            cases r2 with
            | none => cases hl
            | @some da fs _ h5 r6 =>
              obtain ⟨v, hv, rv⟩ := r6.lookup hl
              exact ⟨_, da, _, fs, v, rfl, xfB_ok j1, j2, F1.sub _ _ h4, F1.sub _ _ h5, hv, endV.here F1.sub q1 rv⟩
    · cases e1
end

/-! ### a head's hook that sees the interpreter's own statics too -/
def asS (g : Addr → Option Obj) (n : Nat) : List Addr := He.asD g n ++ [cStatics]
def obsS (n : Nat) (fa : List He.Fa) (fn : List He.DefD) (ts : List He.Tab) (ex : PySem.W.Frag → Bool) (g : Addr → Option Obj) : He.AlX := (He.obsT fa fn ts (He.frT g (asS g n)), ex (He.frT g (asS g n)))
theorem saysS_of {n : Nat} {fa : List He.Fa} {fn : List He.DefD} {ts : List He.Tab} {ex : PySem.W.Frag → Bool} {w : World} {h : Heap} (e : obsS n fa fn ts ex h.get? = He.valX fn ts w) : He.SaysX fa fn ts [] ex w h (He.frT h.get? (asS h.get? n)) :=
  ⟨congrArg (fun z : He.AlX => z.1) e, congrArg (fun z : He.AlX => z.2) e, (fun p hp => by cases hp), (fun p hp => by cases hp), (fun p hp => by cases hp)⟩
def hookS (fa : List He.Fa) (fn : List He.DefD) (ts : List He.Tab) (ex : PySem.W.Frag → Bool) : PySem.W.Hook where
  α := He.AlX
  obs := fun s => obsS 4 fa fn ts ex s.heap.get?
  val := fun w => He.valX fn ts w
  says := fun w h => ∃ K : PySem.W.Frag, K.In h ∧ He.SaysX fa fn ts [] ex w h K
  of := fun _ _ e => ⟨_, He.frT_in, saysS_of e⟩
  keeps := (He.hookX 4 fa fn ts [] ex).keeps
theorem obsS_eq {fa : List He.Fa} {fn : List He.DefD} {ts : List He.Tab} {ex : PySem.W.Frag → Bool} {g : Addr → Option Obj} {s : Shared} (h : ∀ a, g a = s.heap.get? a) : obsS 4 fa fn ts ex g = (hookS fa fn ts ex).obs s := by
  cases (funext h : g = s.heap.get?)
  rfl
end HD

set_option Elab.async false
set_option linter.all false
set_option maxRecDepth 100000
set_option maxHeartbeats 4000000
/-! HDr: list(reversed(x)) of a list. -/
namespace HD
open PySem PySem.Spec PyProof.Rows L2 RT
/-- nothing is guessed of how many are still to come -/
theorem guess_rev {P : Program} {w : World} {A : Around} {x : Shared} {i : Addr} {Q : Bool → Shared → Prop} {E : Value → Shared → Prop} (T : x.TypeIs (.ref i) "list_reverseiterator") (q : Q false x) : wpAny (model P w) A (Builtin.List.listLengthHint (.ref i)) Q E x := by
  unfold Builtin.List.listLengthHint
  refine wpAny_bind (wpAny_specialOf T nolen_lri (wpAny_bind (wpAny_specialOf T hint_lri ?_)))
  have sp : ∀ z : String, z = "list_reverseiterator.__length_hint__" → splitId z = some ("list_reverseiterator", "__length_hint__") := fun z e => by
    subst e
    decide +kernel
  generalize ez : ("list_reverseiterator.__length_hint__" : String) = z
  wp_delta
  rw [sp z ez.symm]
  subst ez
  exact wpAny_bind (wpAny_isInstance (b := true) T (by rw [isSubtype_type]; kernel_rfl) (wpAny_pure q))
/-- an empty list that takes in what a reversed list still has -/
theorem fill_rev {P : Program} {w : World} {A : Around} {x : Shared} {R : Result → Shared → Prop} {i l S : Addr} {v : Array Value} {res : Value} {n : Nat} (hh : A.handled = none) (hi : x.heap.IsRevIter i l ((v.size : Int) - 1)) (hl : x.heap.IsList l v)
    (hS : x.heap.get? S = some { cls := .type "list", data := .seq #[] n }) (d : l ≠ i ∧ S ≠ i ∧ S ≠ l ∧ v.size ≤ sizeLine)
    (k : ∀ h t o m, (∀ b u, b ≠ S → b ≠ i → x.heap.get? b = some u → h.get? b = some u) → h.get? S = some { cls := .type "list", data := .seq o m } → ItemsOf (fun j y => v[v.size - 1 - j]? = some y) o v.size → R (.ok (.ret res)) { x with heap := h, toks := t }) :
    wpAny (model P w) A.in1 (Builtin.List.listExtendWith (.ref S) (.ref i) res) (fun f y => match f with | .done q => R (.ok q) y | .again c => c.quiet = true ∧ codeAny (model P w) A c R y) (fun e y => R (.error e) y) x := by
  obtain ⟨d1, d2, d3, d4⟩ := d
  have T : x.TypeIs (.ref i) "list_reverseiterator" := hi.typeIs
  have same : Builtin.List.listSameRef (.ref S) (.ref i) = false := by simp [Builtin.List.listSameRef, d2]
  have loop : codeAny (model P w) A (.builtin "list.extend.loop" ⟨[.ref S, .ref i, res], []⟩) R x := codeAny_extend_loopS (Walks.listRev (prog := P) (w := w) (A := A.in1) hh i l d1 v).toS d4 S (by simp [d2, d3]) res v.size 0 x #[] n rfl (Nat.zero_le _)
    ⟨Nat.zero_le _, by simpa using hi, hl⟩ hS (ItemsOf.nil _) fun y o m mv hy io => by
      rw [mv.eq_with]
      exact k _ _ o m (fun b u n1 n2 e => mv.heap b u (by simp [n1, n2]) e) hy io
  unfold Builtin.List.listExtendWith
  wp_walk using wpAny_typeOf T, wpAny_pyIter_revIter hi, guess_rev T
  exact ⟨plainId_quiet F.plain_extend_loop _, loop⟩
theorem list_of_rev {P : Program} {w : World} {A : Around} {x : Shared} {Q : Value → Shared → Prop} {E : Value → Shared → Prop} {i l : Addr} {v : Array Value} (hh : A.handled = none) (hi : x.heap.IsRevIter i l ((v.size : Int) - 1)) (hl : x.heap.IsList l v) (d : l ≠ i ∧ v.size ≤ sizeLine)
    (k : ∀ h t o m, (∀ b u, b ≠ i → x.heap.get? b = some u → h.get? b = some u) → h.get? x.heap.objs.size = some { cls := .type "list", data := .seq o m } → ItemsOf (fun j y => v[v.size - 1 - j]? = some y) o v.size → Q (.ref x.heap.objs.size) { x with heap := h, toks := t }) :
    wpAny (model P w) A (call (.type "list") [.ref i]) Q E x := by
  obtain ⟨⟨_, gi, _⟩, ⟨_, gl, _⟩⟩ := And.intro hi hl
  have old : ∀ {b u}, x.heap.get? b = some u → (x.heap.push { cls := .type "list", data := .seq #[] }).get? b = some u := Heap.get?_push_of_some _
  have new : (x.heap.push { cls := .type "list", data := .seq #[] }).get? x.heap.objs.size = some { cls := .type "list", data := .seq #[] } := Heap.get?_push_size _ rfl
  have off : ∀ {b u}, x.heap.get? b = some u → x.heap.objs.size ≠ b := fun e => Nat.ne_of_gt (Heap.lt_size e)
  refine callType_codes (Q₁ := fun o y => o = .ref x.heap.objs.size ∧ y = { x with heap := x.heap.push { cls := .type "list", data := .seq #[] } }) F.called_list (F.typeCall_list_1 _) F.entry_list_init (code_list_new _ ⟨rfl, rfl⟩) ?_
  rintro _ _ ⟨rfl, rfl⟩
  refine ⟨⟨_, new, rfl⟩, F.args_list_init_2 _ _, ?_⟩
  have upd := Heap.get?_update_self (Obj.mapSeq fun _ => (#[] : Array Value)) new rfl
  have keep : ∀ {b u}, x.heap.get? b = some u → ((x.heap.push { cls := .type "list", data := .seq #[] }).update x.heap.objs.size (Obj.mapSeq fun _ => (#[] : Array Value))).get? b = some u := fun e => (Heap.get?_update_other _ _ (off e)).trans (old e)
  have go := fill_rev (P := P) (w := w) (A := A.in1) (x := { x with heap := (x.heap.push { cls := .type "list", data := .seq #[] }).update x.heap.objs.size (Obj.mapSeq fun _ => (#[] : Array Value)) }) (R := wants (fun r y => r = .none ∧ Q (.ref x.heap.objs.size) y) E)
    (S := x.heap.objs.size) (res := .none) hh (hi.at fun _ e => keep e) (hl.at fun _ e => keep e) upd ⟨d.1, off gi, off gl, d.2⟩ fun h t o m kp hS io => ⟨rfl, k h t o m (fun b u nb e => kp b u (Ne.symm (off e)) nb (keep e)) hS io⟩
  refine wpAny_bind (m := Builtin.List.listItems (.ref x.heap.objs.size)) ?_
  unfold Builtin.List.listItems
  refine wpAny_bind (wpAny_seqItems new rfl (wpAny_pure ?_))
  exact wpAny_bind (m := updateSeq x.heap.objs.size fun _ => #[]) (wpAny_updateSeq new rfl (wpAny_bind (m := letGo []) (wpAny_letGo go)))
/-- list(reversed(x)), x a list: a new list -/
def tLstRev (K : PySem.W.Frag) (te : TE) : TE := fun σ H Q => te σ H fun v H1 => ∃ (a : Addr) (xs : List V), v = .ref a ∧ SqL K H1 a xs ∧ ∀ q, H1 q = none → Q (.ref q) (upd H1 q (.lst xs.reverse))
theorem pe_listRev {X : Cx} {e : Expr} {te : TE} {p p2 pos pos2 : Pos} (hc : X.calm = true) (hg : Gl X "list") (hm : X.mg "list" = none) (hg2 : Gl X "reversed") (hm2 : X.mg "reversed" = none) (he : PE X e te)
    (n1 : starEach [e] X.env = (false, eval e X.env) :: starEach [] X.env := by rfl)
    (n2 : starEach [.Call (.Name "reversed" p2) [e] [] pos2] X.env = (false, eval (.Call (.Name "reversed" p2) [e] [] pos2) X.env) :: starEach [] X.env := by rfl) :
    PE X (.Call (.Name "list" p) [.Call (.Name "reversed" p2) [e] [] pos2] [] pos) (tLstRev X.K te) where
  run pn s σ H Q I h := by
    have inner := he.run pn s σ H _ I h
    refine Call_ (ld_blt I hg hm boot_list (callWith_type1 (args_cons (Call_ (ld_blt I hg2 hm2 boot_reversed (callWith_type1 (args_cons (thn inner ?_) n1) n1 rfl))) n2) n2 rfl))
    rintro u x ⟨v, G, J, ru, a, xs, rfl, sq, q⟩
    cases ru
    obtain ⟨its, rv, pl, hz⟩ := J.list sq
    obtain ⟨⟨_, ga, _⟩, _⟩ := And.intro pl.isList trivial
    have lt := Heap.lt_size ga
    refine args_nil (call_reversed_list pl.isList (args_nil (list_of_rev (x := { x with heap := x.heap.push (revObj a ((its.toArray.size : Int) - 1)) }) (J.ok.hd hc) ⟨_, Heap.get?_push_size _ rfl, rfl, rfl⟩ (pl.isList.push _) ⟨Nat.ne_of_lt lt, by rw [List.size_toArray, ← rv.length]; exact hz⟩ ?_)))
    intro g t o m kp gS io
    have up : x.heap.objs.size ≤ (x.heap.push (revObj a ((its.toArray.size : Int) - 1))).objs.size := by rw [Heap.size_push]; exact Nat.le_succ _
    have new : ObjOk X.prog X.w (upd G (x.heap.push (revObj a ((its.toArray.size : Int) - 1))).objs.size (.lst xs.reverse)) g (x.heap.push (revObj a ((its.toArray.size : Int) - 1))).objs.size (.lst xs.reverse) := ⟨by rw [List.length_reverse]; exact hz, o.toList, m, vals_rev rv io, by rw [Array.toArray_toList]; exact gS⟩
    exact ⟨.ref (x.heap.push (revObj a ((its.toArray.size : Int) - 1))).objs.size, _, J.laid (t' := t) (fun b z e => kp b z (Nat.ne_of_lt (Heap.lt_size e)) (Heap.get?_push_of_some _ e)) up new, rfl, q _ (J.hok.fresh up)⟩
def lrevD : D → Option Rs
  | .lst l => some (.n (.lst l.reverse))
  | _ => none
def cLRev (f : Ev) : Ev := fun env => bindR (f env) lrevD
theorem pd_listRev {X : Cx} {W : WX} {a : Expr} {f : Ev} {p p2 pos pos2 : Pos} (hc : X.calm = true) (hg : Gl X "list") (hm : X.mg "list" = none) (hg2 : Gl X "reversed") (hm2 : X.mg "reversed" = none) (ha : PD X W a f)
    (hs : starEach [a] X.env = (false, eval a X.env) :: starEach [] X.env := by rfl)
    (hs2 : starEach [.Call (.Name "reversed" p2) [a] [] pos2] X.env = (false, eval (.Call (.Name "reversed" p2) [a] [] pos2) X.env) :: starEach [] X.env := by rfl) :
    PD X W (.Call (.Name "list" p) [.Call (.Name "reversed" p2) [a] [] pos2] [] pos) (cLRev f) :=
  pd_of (pe_listRev hc hg hm hg2 hm2 ha hs hs2) fun σ H Q env Hs r F e q => rd_bind F e q fun v d Hs1 H1 a1 F1 r1 e1 q1 => by
    unfold lrevD at e1
    split at e1
    · have e3 := Option.some.inj e1
      subst e3
      cases r1 with
      | lst h1 r1 => exact ⟨_, _, rfl, SqL.of (F1.sub _ _ h1), fun p hp => endV.newN F1.sub q1 hp (.lst r1.rev)⟩
    · cases e1
end HD

set_option Elab.async false
set_option linter.all false
set_option maxRecDepth 100000
set_option maxHeartbeats 4000000
/-! HDs: sorted(set(x)) of a list of ints. -/
namespace HD
open PySem PySem.Spec PyProof.Rows L2 RT
/-- a new empty set -/
abbrev setNew (w : World) : Obj := { cls := .type "set", dict := none, data := .set #[] 0 (.fresh 0 0 (!w.params.followText "set-order")) }
section
variable {P : Program} {w : World} {A : Around} {x : Shared} {l : Addr} {v : Array Value} {ns : List Int}
/-- a new set takes in the ints of a list -/
theorem set_takes {R : Result → Shared → Prop} (hh : A.handled = none) (hl : x.heap.IsList l v) (hi : IntsAre v.toList ns) (few : ns.length + 1 < scanBound)
    (k : ∀ h t c, SetR w h x.heap.objs.size (fun j => decide (j ∈ ns)) c → c ≤ ns.length → (∀ b u, x.heap.get? b = some u → h.get? b = some u) → R (.ok (.ret .none)) { x with heap := h, toks := t }) :
    wpAny (model P w) A.in1 (Builtin.«set.__init__» ⟨[.ref x.heap.objs.size, .ref l], []⟩) (fun f y => match f with | .done q => R (.ok q) y | .again c => c.quiet = true ∧ codeAny (model P w) A c R y) (fun e y => R (.error e) y) { x with heap := x.heap.push (setNew w) } := by
  obtain ⟨⟨oc, od, dt, sl⟩, gl, cl, m, dl⟩ := id hl
  simp only at cl dl
  subst cl dl
  have lt := Heap.lt_size gl
  have len : v.size = ns.length := by
    have q := hi.length
    rw [Array.length_toList] at q
    exact q
  have new : (x.heap.push (setNew w)).get? x.heap.objs.size = some (setNew w) := Heap.get?_push_size _ rfl
  have sz : (x.heap.push (setNew w)).objs.size = x.heap.objs.size + 1 := Heap.size_push _ _
  have gl' := Heap.get?_push_of_some (setNew w) gl
  have ne : l ≠ (x.heap.push (setNew w)).objs.size := Nat.ne_of_lt (by rw [sz]; exact Nat.lt_succ_of_lt lt)
  have s1 := F.sub_list_set
  have s2 := F.sub_list_frozenset
  have d1 : (Value.type "list" == Value.type "dict") = false := by decide
  have fill : ∀ A' : Around, A'.handled = none → ∀ R' : Result → Shared → Prop, (∀ h t c, SetR w h x.heap.objs.size (fun j => decide (j ∈ ns)) c → c ≤ ns.length → (∀ b u, x.heap.get? b = some u → h.get? b = some u) → R' (.ok (.ret .none)) { x with heap := h, toks := t }) →
      codeAny (model P w) A' (.builtin "set.update.loop" ⟨[.ref x.heap.objs.size, .ref (x.heap.push (setNew w)).objs.size], []⟩) R' { x with heap := (x.heap.push (setNew w)).push { cls := .type "list_iterator", data := .fields #[.ref l, .int 0 0] } } := fun A' hA R' k' => by
    refine set_update_ints ((Walks.list (prog := P) (w := w) (A := A'.in1) hA (x.heap.push (setNew w)).objs.size l ne v).toS) x.heap.objs.size (by simp only [List.mem_cons, List.not_mem_nil, or_false, not_or, sz]; exact ⟨Nat.ne_of_lt (Nat.lt_succ_self _), Nat.ne_of_gt lt⟩) ns len few ?_ (v.size - 0) 0 _ rfl (Nat.zero_le _)
      ⟨⟨_, Heap.get?_push_size _ rfl, rfl, rfl⟩, (hl.push _).push _⟩ ⟨0, Nat.le_refl 0, setR_new_at (Heap.get?_push_of_some _ new)⟩ fun y c mv hc hS => ?_
    · intro i z hz
      have lti : i < v.size := (Array.getElem?_eq_some_iff.mp hz).1
      obtain ⟨t, e⟩ := hi.int_at i z (by rw [Array.getElem?_toList]; exact hz)
      exact ⟨ns[i], t, List.getElem?_eq_getElem (by omega), by rw [e, List.getD_eq_getElem?_getD, List.getElem?_eq_getElem (by omega)]; rfl⟩
    · rw [mv.eq_with]
      refine k' _ _ c hS (len ▸ hc) fun b u e => mv.heap b u ?_ (Heap.get?_push_of_some _ (Heap.get?_push_of_some _ e))
      have be := Heap.lt_size e
      simp only [List.mem_cons, List.not_mem_nil, or_false, not_or, sz]
      exact ⟨Nat.ne_of_lt be, Nat.ne_of_lt (Nat.lt_succ_of_lt be)⟩
  unfold Builtin.«set.__init__» noKeywords Builtin.Frozenset.updateFrom
  generalize ei : pyIter = it
  wp_walk
  subst ei
  refine wpAny_pyIter_list (hl.push _) (wpAny_bind (wpAny_runValue (fill _ (by simp [hh]) _ fun h t c S few' kp => ?_)))
  exact wpAny_pure (wpAny_pure (k h t c S few' kp))
theorem set_of_list {Q : Value → Shared → Prop} {E : Value → Shared → Prop} (hh : A.handled = none) (hl : x.heap.IsList l v) (hi : IntsAre v.toList ns) (few : ns.length + 1 < scanBound)
    (k : ∀ h t c, SetR w h x.heap.objs.size (fun j => decide (j ∈ ns)) c → c ≤ ns.length → (∀ b u, x.heap.get? b = some u → h.get? b = some u) → Q (.ref x.heap.objs.size) { x with heap := h, toks := t }) :
    wpAny (model P w) A (call (.type "set") [.ref l]) Q E x := by
  have fs := F.called_set
  obtain ⟨b, up, mro⟩ := fs.mro
  have f1 := fs.made
  have f2 := fs.sub
  have f3 := fs.notType
  have f4 := fs.canCreate
  have f5 := F.typeCall_set_1 (.ref l)
  have f6 := fs.init.lookup
  refine wpAny_call (codeAny_of_tree (wpAny_pure ⟨Code.quiet_builtin _ (by decide +kernel), codeAny_builtin F.entry_type_call ?_⟩))
  rw [Around.under_plain (weight_type_call_type "set" [.ref l] []) rfl]
  repeat (any_goals (first | assumption | wp_step))
  refine codeAny_mono (code_set_led1 (.ref l) (E := E) (Q₁ := fun o y => o = .ref x.heap.objs.size ∧ y = { x with heap := x.heap.push (setNew w) }) ⟨rfl, rfl⟩) fun r y hr => ?_
  cases r with
  | error e => exact hr
  | ok fl =>
    cases fl with
    | ret o =>
      obtain ⟨rfl, rfl⟩ := hr
      have T : Shared.TypeIs { x with heap := x.heap.push (setNew w) } (.ref x.heap.objs.size) "set" := ⟨_, Heap.get?_push_size _ rfl, rfl⟩
      have f7 := fs.init.bind (.ref x.heap.objs.size)
      repeat (any_goals (first | assumption | wp_step))
      refine codeAny_mono (codeAny_call_builtin (R := wants (fun r y => r = .none ∧ Q (.ref x.heap.objs.size) y) E) fs.init.plain F.entry_set_init (check_set_init_1 T (set_takes (A := A.in1) hh hl hi few fun h t c S c' kp => ⟨rfl, k h t c S c' kp⟩))) fun r y hr => ?_
      cases r with
      | error e => exact hr
      | ok fl =>
        cases fl with
        | ret o =>
          obtain ⟨rfl, q⟩ := hr
          repeat (any_goals (first | assumption | wp_step))
        | _ => exact hr.elim
    | _ => exact hr.elim
end
/-- sorted(set(x)), x a list of fewer than 64 ints -/
def tSortSet (K : PySem.W.Frag) (te : TE) : TE := fun σ H Q => te σ H fun v H1 => ∃ (a : Addr) (ns : List Int), v = .ref a ∧ SqL K H1 a (ns.map V.int) ∧ ns.length < 63 ∧
  ∀ (ms : List Int) (q : Addr), ms.Pairwise (· < ·) → (∀ k, k ∈ ms ↔ k ∈ ns) → H1 q = none → Q (.ref q) (upd H1 q (.lst (ms.map V.int)))
theorem pe_sortSet {X : Cx} {e : Expr} {te : TE} {p p2 pos pos2 : Pos} (hc : X.calm = true) (hg : Gl X "sorted") (hm : X.mg "sorted" = none) (hg2 : Gl X "set") (hm2 : X.mg "set" = none) (he : PE X e te)
    (n1 : starEach [e] X.env = (false, eval e X.env) :: starEach [] X.env := by rfl)
    (n2 : starEach [.Call (.Name "set" p2) [e] [] pos2] X.env = (false, eval (.Call (.Name "set" p2) [e] [] pos2) X.env) :: starEach [] X.env := by rfl) :
    PE X (.Call (.Name "sorted" p) [.Call (.Name "set" p2) [e] [] pos2] [] pos) (tSortSet X.K te) where
  run pn s σ H Q I h := by
    have inner := he.run pn s σ H _ I h
    refine Call_ (ld_blt I hg hm boot_sorted (callWith_builtin1 (args_cons (Call_ (ld_blt I hg2 hm2 boot_set (callWith_type1 (args_cons (thn inner ?_) n1) n1 rfl))) n2) n2 rfl))
    rintro u x ⟨v, G, J, ru, a, ns, rfl, sq, few, q⟩
    cases ru
    obtain ⟨its, rv, pl, hz⟩ := J.list sq
    have whole : IntsAre its.toArray.toList ns := ints_of_vals rv
    refine args_nil (set_of_list (J.ok.hd hc) pl.isList whole (by unfold scanBound; omega) fun h t c S c63 kp => args_nil ?_)
    refine sorted_set (s := { x with heap := h, toks := t }) S (J.ok.hd hc) (by omega) fun y b out m ms ky gy oy up get iy inc mem cnt => ?_
    have all : ∀ b u, x.heap.get? b = some u → y.heap.get? b = some u := fun b u e => ky b u (kp b u e)
    have up' : x.heap.objs.size ≤ b := Nat.le_trans (Nat.le_of_lt S.lt) up
    have few' : (ms.map V.int).length ≤ sizeLine := by rw [List.length_map, cnt, sizeLine_eq]; omega
    have free := J.hok.fresh up'
    have new : ObjOk X.prog X.w (upd G b (.lst (ms.map V.int))) y.heap b (.lst (ms.map V.int)) := ⟨few', out.toList, m, vals_of_ints iy, get⟩
    exact ⟨.ref b, _, J.call' (ch := []) oy (Un.laid all up' free) (J.hok.laid all up' new) (by rw [gy]; exact J.bare) (fun _ z => nomatch z), rfl, q ms b inc (fun k => (mem k).trans decide_eq_true_iff) free⟩
/-- the members of a list of ints, rising, each once -/
def nubI : List Int → List Int
  | [] => []
  | x :: l => if x ∈ l then nubI l else x :: nubI l
theorem nubI_mem {k : Int} : ∀ {l : List Int}, k ∈ nubI l ↔ k ∈ l
  | [] => Iff.rfl
  | x :: l => by
    unfold nubI
    split
    · rename_i h
      rw [nubI_mem, List.mem_cons]
      exact ⟨.inr, fun z => z.elim (fun e => e ▸ h) id⟩
    · rw [List.mem_cons, List.mem_cons, nubI_mem]
theorem nubI_nodup : ∀ l : List Int, (nubI l).Nodup
  | [] => List.nodup_nil
  | x :: l => by
    unfold nubI
    split
    · exact nubI_nodup l
    · rename_i h
      exact List.nodup_cons.2 ⟨fun z => h (nubI_mem.1 z), nubI_nodup l⟩
def setI (ns : List Int) : List Int := sortI (nubI ns)
theorem setI_mem {k : Int} {ns : List Int} : k ∈ setI ns ↔ k ∈ ns := (sortI_perm _).mem_iff.trans nubI_mem
theorem setI_inc (ns : List Int) : (setI ns).Pairwise (· < ·) := lt_of_le_nodup _ (sortI_up _) ((sortI_perm _).nodup_iff.2 (nubI_nodup _))
/-- rising lists with the same members are the same -/
theorem inc_eq : ∀ {a b : List Int}, a.Pairwise (· < ·) → b.Pairwise (· < ·) → (∀ k, k ∈ a ↔ k ∈ b) → a = b
  | [], [], _, _, _ => rfl
  | [], y :: b, _, _, h => absurd ((h y).2 (List.mem_cons_self ..)) (by simp)
  | x :: a, [], _, _, h => absurd ((h x).1 (List.mem_cons_self ..)) (by simp)
  | x :: a, y :: b, ha, hb, h => by
    obtain ⟨a1, a2⟩ := List.pairwise_cons.1 ha
    obtain ⟨b1, b2⟩ := List.pairwise_cons.1 hb
    have e : x = y := by
      rcases List.mem_cons.1 ((h x).1 (List.mem_cons_self ..)) with e | e
      · exact e
      · rcases List.mem_cons.1 ((h y).2 (List.mem_cons_self ..)) with f | f
        · exact f.symm
        · have := a1 y f
          have := b1 x e
          omega
    subst e
    rw [inc_eq a2 b2 fun k => ?_]
    have hk := h k
    rw [List.mem_cons, List.mem_cons] at hk
    constructor
    · intro m
      rcases hk.1 (.inr m) with e | e
      · have := a1 k m
        omega
      · exact e
    · intro m
      rcases hk.2 (.inr m) with e | e
      · have := b1 k m
        omega
      · exact e
def sortSetD : D → Option Rs
  | .lst l => (D.ints l).bind fun ns => if ns.length < 63 then some (.n (.lst ((setI ns).map .int))) else none
  | _ => none
def cSortSet (f : Ev) : Ev := fun env => bindR (f env) sortSetD
theorem pd_sortSet {X : Cx} {W : WX} {a : Expr} {f : Ev} {p p2 pos pos2 : Pos} (hc : X.calm = true) (hg : Gl X "sorted") (hm : X.mg "sorted" = none) (hg2 : Gl X "set") (hm2 : X.mg "set" = none) (ha : PD X W a f)
    (n1 : starEach [a] X.env = (false, eval a X.env) :: starEach [] X.env := by rfl)
    (n2 : starEach [.Call (.Name "set" p2) [a] [] pos2] X.env = (false, eval (.Call (.Name "set" p2) [a] [] pos2) X.env) :: starEach [] X.env := by rfl) :
    PD X W (.Call (.Name "sorted" p) [.Call (.Name "set" p2) [a] [] pos2] [] pos) (cSortSet f) :=
  pd_of (pe_sortSet hc hg hm hg2 hm2 ha n1 n2) fun σ H Q env Hs r F e q => rd_bind F e q fun v d Hs1 H1 a1 F1 r1 e1 q1 => by
    unfold sortSetD at e1
    split at e1
    · rename_i l
      cases e2 : D.ints l with
      | none => rw [e2] at e1; cases e1
      | some ns =>
        rw [e2, Option.bind_some] at e1
        split at e1
        case isFalse => cases e1
        case isTrue few =>
          have e3 := Option.some.inj e1
          subst e3
          cases r1 with
          | lst h1 r1 =>
            refine ⟨_, ns, rfl, by rw [← ints_rep e2 r1]; exact SqL.of (F1.sub _ _ h1), few, fun ms p inc mem hn => ?_⟩
            rw [inc_eq inc (setI_inc ns) fun k => (mem k).trans setI_mem.symm]
            exact endV.newN F1.sub q1 hn (.lst (reps_ints _ _ _))
    · cases e1
end HD

set_option Elab.async false
set_option linter.all false
set_option maxRecDepth 100000
set_option maxHeartbeats 4000000
/-! HDt: a loop over a list of one's own that only looks: for x in l: if ..: return k. -/
namespace HD
open PySem PySem.Spec PyProof.Rows L2
def chkGo (ti : Nat) (nm : List Nat) (c : Tv) (k : D) : En → List D → Option Out
  | env, [] => some (.nx env)
  | env, x :: r => match c (mask nm (env.set ti (.sh x))) with
    | some (.ok false) => chkGo ti nm c k (env.set ti (.sh x)) r
    | some (.ok true) => some (.rt (.v k))
    | _ => none
def cForChk (j ti : Nat) (nm : List Nat) (c : Tv) (k : D) : Sm := fun env => match env[j]? with
  | some (.own (.lst l)) => chkGo ti nm c k env l
  | _ => none
section
variable {X : Cx} {W : WX} {x : Str} {j ti : Nat} {nm : List Nat} {c : Tv} {k : Bool} {tg t e : Expr} {p pos p2 p3 : Pos}
theorem psd_forChk (hp : PassesOwn (model X.prog X.w) X.A X.env X.xe) (hc : X.calm = true) (hN : X.N[j]? = some x) (hv : Vis X.env.scope x) (hd : (x == ("__debug__" : Str)) = false) (hcd : (x == ("__classdict__" : Str)) = false)
    (hg : PG X tg (gName ti)) (ht : PTD X W t c) (hr : PD X W e (cC (.bl k))) (hne : ti ≠ j) (hs : ∀ y, foldedSetIterable (.Name x p) X.env y = pure y := by intro _; rfl) :
    PSD X W (.For tg (.Name x p) [.If t [.Return (some e) p2] [] p3] [] pos) (cForChk j ti nm c (.bl k)) :=
  PS.weak (ps_for hp hc (pi_any (pe_var hN hv hd hcd)) hg (pss_one (ps_if ht (pss_one (ps_ret hr)) pss_nil)) hs) fun D σ H ⟨H0s, H0, env, Hs, o, Fr, e, q⟩ => by
    unfold cForChk at e
    split at e
    case h_2 => cases e
    rename_i l ej
    obtain ⟨a, ob, sj, h0, hn, ha, ro⟩ := Fr.own j _ ej
    have still : ∀ {env' : En} {Hs' H' : Hp} {σ' : Sg}, FrOk X.K H0s H0 env' Hs' σ' H' → env'[j]? = some (.own (.lst l)) → σ'[j]? = some (some (.ref a)) → ∃ xs, H' a = some (.lst xs) ∧ Reps X.K Hs' xs l := fun F ee es => by
      obtain ⟨b, ob, z, _, _, hb, rb⟩ := F.own j _ ee
      rw [es] at z
      cases z
      cases rb with
      | lst r => exact ⟨_, hb, r⟩
    obtain ⟨xs, hx, rx⟩ := still Fr ej sj
    refine ⟨.ref a, sj, .inl ⟨a, rfl, ⟨xs, SqL.of hx⟩, ?_⟩⟩
    refine ⟨fun i m σ' H' => m = l.length - i ∧ i ≤ l.length ∧ σ'[j]? = some (some (.ref a)) ∧ ∃ env' Hs', env'[j]? = some (.own (.lst l)) ∧ FrOk X.K H0s H0 env' Hs' σ' H' ∧ Same Hs Hs' ∧ chkGo ti nm c (.bl k) env' (l.drop i) = some o,
      ⟨_, rfl, Nat.zero_le _, sj, env, Hs, ej, Fr, Same.refl _, e⟩, ?_⟩
    rintro i m σ1 H1 ⟨rfl, hi, s1, env1, Hs1, e1, F1, up, go⟩
    obtain ⟨ys, hy, ry⟩ := still F1 e1 s1
    have len : ys.length = l.length := ry.length
    by_cases hlt : i < l.length
    · right
      refine ⟨walk_list.goes i H1 (by rw [len]; exact hlt) (SqL.of hy), fun σ' H' => i + 1 ≤ l.length ∧ σ'[j]? = some (some (.ref a)) ∧ ∃ env' Hs', env'[j]? = some (.own (.lst l)) ∧ FrOk X.K H0s H0 env' Hs' σ' H' ∧ Same Hs Hs' ∧ chkGo ti nm c (.bl k) env' (l.drop (i + 1)) = some o,
        fun σ' H' ⟨z1, z2⟩ => ⟨l.length - (i + 1), by omega, rfl, z1, z2⟩, fun v H2 y => ?_⟩
      obtain ⟨rfl, hv2⟩ := walk_list.yields i H1 v H2 (by rw [len]; exact hlt) (SqL.of hy) y
      have hd : l[i]? = some l[i] := List.getElem?_eq_getElem hlt
      obtain ⟨v', g1, rv⟩ := ry.get hd
      rw [hv2] at g1
      cases g1
      rw [List.drop_eq_getElem_cons hlt] at go
      unfold chkGo at go
      have F2 := F1.set rv ti
      have e2 : (env1.set ti (.sh l[i]))[j]? = some (.own (.lst l)) := by rw [List.getElem?_set_ne hne]; exact e1
      have s2 : (σ1.set ti (some v))[j]? = some (some (.ref a)) := by rw [List.getElem?_set_ne hne]; exact s1
      cases ec : c (mask nm (env1.set ti (.sh l[i]))) with
      | none => rw [ec] at go; cases go
      | some r =>
        rw [ec] at go
        refine test_rd F2 ec (fun ex hr => ?_) (fun b Hs3 H3 hr up3 F3 => ?_)
        · subst hr
          cases go
        · subst hr
          cases b with
          | true =>
            rw [if_pos rfl]
            have go := Option.some.inj go
            subst go
            refine ⟨mask [] (env1.set ti (.sh l[i])), _, _, F3.thaw [], rfl, fun w Hs4 H4 a4 r4 => ?_⟩
            exact q w Hs4 H4 ((F3.ext_lift []).trans a4) r4
          | false =>
            rw [if_neg Bool.false_ne_true]
            exact ⟨hlt, s2, _, Hs3, e2, F3, up.trans up3, go⟩
    · left
      have ei : i = l.length := by omega
      subst ei
      rw [List.drop_length] at go
      have go := Option.some.inj go
      subst go
      exact ⟨by rw [← len]; exact walk_list.stops H1 (SqL.of hy), q Hs1 σ1 H1 up F1⟩
end
end HD

set_option Elab.async false
set_option linter.all false
set_option maxRecDepth 100000
set_option maxHeartbeats 4000000
/-! HDu: a function that returns a tuple of its names, their lists nobody else's; and such a tuple taken apart into names that own the lists. -/
namespace HD
open PySem PySem.Spec PyProof.Rows L2

/-! ### return a, b, .. -/
/-- what the names of a return hold: a list must be one's own, nothing else may be a list -/
def tupGo : List Nat → En → Option (List D)
  | [], _ => some []
  | i :: is, env => match env[i]? with
    | some (.own (.lst l)) => (tupGo is env).map (D.lst l :: ·)
    | some (.sh d) => if d.isLs then none else (tupGo is env).map (d :: ·)
    | _ => none
def cRetT (is : List Nat) : Sm := fun env => if is.Nodup ∧ is.length ≤ 100 then (tupGo is env).map fun ds => .rt (.n (.tup ds)) else none
def vrs : List Nat → TA
  | [] => tNil
  | i :: is => tCons (tVar i) (vrs is)
section
variable {K : PySem.W.Frag} {H0s H0 : Hp} {env env' : En} {Hs H Hs1 H1 : Hp} {σ : Sg} {nm : List Nat} {v : V} {d : D}
theorem RepP.up (e : Same H H1) : ∀ {ps : List Addr} {xs : List V} {ds : List D}, RepP K H0 Hs H ps xs ds → RepP K H0 Hs H1 ps xs ds := fun h => by
  induction h with
  | nil => exact .nil
  | own h1 h2 h3 h4 h5 _ ih => exact .own h1 h2 (e _ _ h3) h4 h5 ih
  | sh r z _ ih => exact .sh r z ih
theorem RepP.len {ps : List Addr} {xs : List V} {ds : List D} (h : RepP K H0 Hs H ps xs ds) : xs.length = ds.length := by
  induction h with
  | nil => rfl
  | own _ _ _ _ _ _ ih => exact congrArg (· + 1) ih
  | sh _ _ _ ih => exact congrArg (· + 1) ih
theorem tup_rep (Fr : FrOk K H0s H0 env Hs σ H) (Q : List V → Hp → Prop) : ∀ (is : List Nat) (ds : List D), is.Nodup → tupGo is env = some ds →
    (∀ ps vs, RepP K H0 Hs H ps vs ds → (∀ p ∈ ps, ∃ j ∈ is, ∃ e, env[j]? = some (Slot.own e) ∧ σ[j]? = some (some (V.ref p))) → Q vs H) → vrs is σ H Q
  | [], ds, _, e, k => by
    have e2 := Option.some.inj e
    subst e2
    exact k [] [] .nil fun p hp => nomatch hp
  | i :: is, ds, nd, e, k => by
    obtain ⟨n1, n2⟩ := List.nodup_cons.1 nd
    unfold tupGo at e
    split at e
    · rename_i l ei
      cases et : tupGo is env with
      | none => rw [et] at e; cases e
      | some ds1 =>
        rw [et] at e
        have e2 := Option.some.inj e
        subst e2
        obtain ⟨p, o, h1, h2, h3, h4, h5⟩ := Fr.own i _ ei
        refine ⟨_, h1, tup_rep Fr (fun xs H2 => Q (V.ref p :: xs) H2) is ds1 n2 et fun ps vs r w => ?_⟩
        refine k (p :: ps) _ (.own h2 h3 h4 h5 (fun hp => ?_) r) fun q hq => ?_
        · obtain ⟨j, hj, ee, g1, g2⟩ := w p hp
          have := Fr.sep i j _ _ p ei g1 h1 g2
          subst this
          exact n1 hj
        · rcases List.mem_cons.1 hq with rfl | hq
          · exact ⟨i, List.mem_cons_self .., _, ei, h1⟩
          · obtain ⟨j, hj, z⟩ := w q hq
            exact ⟨j, List.mem_cons_of_mem _ hj, z⟩
    · rename_i dd ei
      split at e
      · cases e
      · rename_i hl
        cases et : tupGo is env with
        | none => rw [et] at e; cases e
        | some ds1 =>
          rw [et] at e
          have e2 := Option.some.inj e
          subst e2
          obtain ⟨v, h1, h2⟩ := Fr.sh i _ ei
          refine ⟨v, h1, tup_rep Fr (fun xs H2 => Q (v :: xs) H2) is ds1 n2 et fun ps vs r w => ?_⟩
          refine k ps _ (.sh h2 (by simpa using hl) r) fun q hq => ?_
          obtain ⟨j, hj, z⟩ := w q hq
          exact ⟨j, List.mem_cons_of_mem _ hj, z⟩
    · cases e
theorem psd_retT {X : Cx} {W : WX} {es : List Expr} {is : List Nat} {kk : Nat} {pos tp : Pos} (ha : PA X es (vrs is)) : PSD X W (.Return (some (.Tuple es kk tp)) pos) (cRetT is) :=
  PS.weak (ps_ret (pe_tup ha)) fun D σ H ⟨H0s, H0, env, Hs, o, Fr, e, q⟩ => by
    unfold cRetT at e
    split at e
    · rename_i hc
      cases et : tupGo is env with
      | none => rw [et] at e; cases e
      | some ds =>
        rw [et] at e
        have e2 := Option.some.inj e
        subst e2
        refine tup_rep Fr _ is ds hc.1 et fun ps vs r w => ⟨?_, fun p hp => ?_⟩
        · have hl : vs.length ≤ 100 := by
            have h := hc.2
            have : ∀ (is : List Nat) (ds : List HD.D), tupGo is env = some ds → is.length = ds.length := fun is => by
              induction is with
              | nil => intro ds e; rw [← Option.some.inj e]; rfl
              | cons i is ih =>
                intro ds e
                unfold tupGo at e
                split at e
                · cases e1 : tupGo is env with
                  | none => rw [e1] at e; cases e
                  | some d1 => rw [e1] at e; rw [← Option.some.inj e]; exact congrArg (· + 1) (ih d1 e1)
                · split at e
                  · cases e
                  · cases e1 : tupGo is env with
                    | none => rw [e1] at e; cases e
                    | some d1 => rw [e1] at e; rw [← Option.some.inj e]; exact congrArg (· + 1) (ih d1 e1)
                · cases e
            rw [r.len, ← this is ds et]
            exact h
          exact Nat.le_trans hl (by decide)
        · have up : Same H (upd H p (.tup vs)) := same_upd hp
          refine q _ Hs _ (Fr.ext.laidN hp) (.inr ⟨p, ps, vs, ds, rfl, rfl, Fr.ext.h.free hp, Fr.sub.free hp, upd_same, fun z => ?_, r.up up⟩)
          obtain ⟨_, _, oo, ho⟩ := r.at p z
          rw [hp] at ho
          cases ho
    · cases e

/-! ### a, b, .. = such a tuple -/
def slotT : D → Slot
  | .lst l => .own (.lst l)
  | d => .sh d
def setNs : List Nat → List D → En → Option En
  | [], [], env => some env
  | i :: is, d :: ds, env => setNs is ds (env.set i (slotT d))
  | _, _, _ => none
def setNR (is : List Nat) : Vn → En → Option Out
  | .n (.tup ds), env => (setNs is ds env).map .nx
  | u, env => setUR is u env
def cSetUN (is : List Nat) (nm : List Nat) (f : Ev) : Sm := fun env => evx nm f env (setNR is)
theorem slotT_sh {d : D} (h : d.isLs = false) : slotT d = .sh d := by cases d <;> first | rfl | cases h
theorem setNs_len : ∀ (is : List Nat) (ds : List D) (env env' : En), setNs is ds env = some env' → is.length = ds.length
  | [], [], _, _, _ => rfl
  | [], _ :: _, _, _, h => by cases h
  | _ :: _, [], _, _, h => by cases h
  | _ :: is, _ :: ds, _, env', h => congrArg (· + 1) (setNs_len is ds _ env' h)
theorem gs_frN {Q : Sg → Hp → Prop} : ∀ (is : List Nat) (ds : List D) (vs : List V) (ps : List Addr) (env env' : En) (σ : Sg), FrOk K H0s H0 env Hs σ H → RepP K H0 Hs H ps vs ds →
    (∀ q ∈ ps, ∀ (j : Nat) (e : D), env[j]? = some (Slot.own e) → σ[j]? ≠ some (some (V.ref q))) → setNs is ds env = some env' → (∀ σ', FrOk K H0s H0 env' Hs σ' H → Q σ' H) → gsOf is vs σ H Q
  | [], ds, vs, ps, env, env', σ, F, r, nob, e, k => by
    cases ds with
    | nil =>
      cases r
      have e2 := Option.some.inj e
      subst e2
      exact ⟨rfl, k σ F⟩
    | cons d ds => cases e
  | i :: is, ds, vs, ps, env, env', σ, F, r, nob, e, k => by
    cases ds with
    | nil => cases e
    | cons d ds =>
      cases r with
      | own h1 h2 h3 h4 h5 r =>
        rename_i p o l ps xs
        have F1 := F.setO h1 h2 h3 h4 (nob p (List.mem_cons_self ..)) i
        refine ⟨_, _, rfl, gs_frN is ds _ ps _ env' _ F1 r (fun q hq j ee hj hs => ?_) e k⟩
        by_cases hij : i = j
        · subst hij
          by_cases hl : i < σ.length
          · rw [List.getElem?_set_self hl] at hs
            cases hs
            exact h5 hq
          · rw [List.getElem?_eq_none (by simpa using hl)] at hs; cases hs
        · rw [List.getElem?_set_ne hij] at hj hs
          exact nob q (List.mem_cons_of_mem _ hq) j ee hj hs
      | sh hr hz r =>
        unfold setNs at e
        rw [slotT_sh hz] at e
        refine ⟨_, _, rfl, gs_frN is ds _ ps _ env' _ (F.set hr i) r (fun q hq j ee hj hs => ?_) e k⟩
        by_cases hij : i = j
        · subst hij
          by_cases hl : i < env.length
          · rw [List.getElem?_set_self hl] at hj; cases hj
          · rw [List.getElem?_eq_none (by simpa using hl)] at hj; cases hj
        · rw [List.getElem?_set_ne hij] at hj hs
          exact nob q hq j ee hj hs
theorem psd_setUN {X : Cx} {W : WX} {a : Expr} {f : Ev} {pos tp : Pos} {es : List Expr} {kk : Nat} {nm is : List Nat} (hc : X.calm = true) (hg : PGs X es (gsOf is)) (he : PD X W a f)
    (hn : (assignEach es X.env).length = is.length := by rfl) (hst : (assignEach es X.env).findIdx? (·.1) = none := by rfl) (hs : swapsWithSole [.Tuple es kk tp] a pos.line X.env = pure false := by rfl) (hw : swappedStores [.Tuple es kk tp] a X.env = pure none := by rfl)
    (h1 : (assignEach [.Tuple es kk tp] X.env).map (·.2) = [assign (.Tuple es kk tp) X.env] := by rfl) : PSD X W (.Assign [.Tuple es kk tp] a pos) (cSetUN is nm f) :=
  PS.weak (ps_asg he (PG.or (pg_tup hc hg hn hst) (pg_unl hc hg hn hst)) hs hw h1) fun D σ H ⟨H0s, H0, env, Hs, o, Fr, e, q⟩ => by
    refine evx_ok Fr e q fun v u env1 Hs1 H1 s1 F1 gt e1 q1 => ?_
    have old : setUR is u env1 = some o → gTup X.K is.length (gsOf is) v σ H1 D.nx ∨ gUnl X.K is.length (gsOf is) v σ H1 D.nx := fun e1 => by
      unfold setUR at e1
      cases e2 : sqD u.d with
      | none => rw [e2] at e1; cases e1
      | some ds =>
        rw [e2] at e1
        cases e3 : setAll is ds env1 with
        | none =>
          rw [Option.bind_some, e3] at e1
          cases e1
        | some env2 =>
          rw [Option.bind_some, e3] at e1
          have e4 := Option.some.inj e1
          subst e4
          obtain ⟨Hs2, s2, F2, r2⟩ := gt.share F1
          have k : ∀ σ', FrOk X.K H0s H0 env2 Hs2 σ' H1 → D.nx σ' H1 := fun σ' F3 => q1 Hs2 σ' H1 s2 F3
          obtain ⟨t, p, vs, ev, hq, rs⟩ := sqD_rep e2 r2
          have hl : vs.length = is.length := by rw [rs.length]; exact (setAll_len _ _ _ _ e3).symm
          have go := gs_frOk is ds vs env1 env2 σ D.nx F2 rs e3 k
          cases t with
          | true => exact .inl ⟨p, vs, ev, same_sqt F2.sub hq, hl, go⟩
          | false => exact .inr ⟨p, vs, ev, F2.sub.seq hq, hl, go⟩
    unfold setNR at e1
    split at e1
    · rename_i ds
      cases e3 : setNs is ds env1 with
      | none => rw [e3] at e1; cases e1
      | some env2 =>
        rw [e3] at e1
        have e4 := Option.some.inj e1
        subst e4
        rcases gt with ⟨p, ob, _, _, _, _, ro, _⟩ | ⟨p, ps, xs, ds2, ed, rfl, h0, hn2, hp, np, r, nob⟩
        · cases ro
        · cases ed
          have hl : xs.length = is.length := by rw [r.len]; exact (setNs_len _ _ _ _ e3).symm
          have go := gs_frN (Q := D.nx) is ds xs ps env1 env2 σ F1 r (fun q hq => nob q (List.mem_cons_of_mem _ hq)) e3 fun σ' F3 => q1 Hs1 σ' H1 (Same.refl _) F3
          exact .inl ⟨p, xs, rfl, SqT.of hp, hl, go⟩
    · exact old e1
end
end HD

set_option Elab.async false
set_option linter.all false
set_option maxRecDepth 100000
set_option maxHeartbeats 4000000
/-! HDv: x = f(..), a tuple of something and a list of one's own; it is looked at; then its list grows, and x is not looked at again. -/
namespace HD
open PySem PySem.Spec PyProof.Rows L2
def grow (i j : Nat) (a : D) (l : List D) (env1 : En) : Rt → Option Out
  | .ok false => match (env1.set i .un)[j]? with
    | some (.sh _) => if a.isLs = false ∧ l.length < sizeLine ∧ i < env1.length then some (.nx (env1.set i .un)) else none
    | _ => none
  | _ => none
def ownR (i : Nat) (nm : List Nat) (c : Tv) (j : Nat) : Vn → En → Option Out
  | .n (.tup [a, .lst l]), env1 => (c (mask nm (env1.set i (.sh (.tup [a, .lst l]))))).bind (grow i j a l env1)
  | _, _ => none
def cOwn3 (i : Nat) (nm : List Nat) (f : Ev) (nm2 : List Nat) (c : Tv) (j : Nat) : Sm := fun env => evx nm f env (ownR i nm2 c j)
section
variable {K : PySem.W.Frag} {H0s H0 : Hp} {env env' : En} {Hs H Hs1 H1 : Hp} {σ : Sg} {nm : List Nat} {v : V} {d : D}
/-- the heap grows, nothing is frozen -/
theorem FrOk.stay (F : FrOk K H0s H0 env Hs σ H) (s : Same H H1) : FrOk K H0s H0 env Hs σ H1 :=
  ⟨⟨F.ext.s, F.ext.h.trans s, F.ext.sub.trans s, F.ext.new⟩, F.len, F.sh, fun i d e => let ⟨p, o, h1, h2, h3, h4, h5⟩ := F.own i d e; ⟨p, o, h1, h2, h3, s _ _ h4, h5⟩, F.sep⟩
/-- a thing that nobody holds is changed -/
theorem FrOk.loose {q : Addr} {o : HO} (F : FrOk K H0s H0 env Hs σ H) (h0 : H0 q = none) (hn : Hs q = none) (nob : ∀ (j : Nat) (e : D), env[j]? = some (Slot.own e) → σ[j]? ≠ some (some (V.ref q))) : FrOk K H0s H0 env Hs σ (upd H q o) :=
  ⟨F.ext.mut h0 hn, F.len, F.sh, fun i d e => by
    obtain ⟨p, o2, h1, h2, h3, h4, h5⟩ := F.own i d e
    exact ⟨p, o2, h1, h2, h3, by rw [upd_ne (fun z => nob i d e (by rw [h1, z]))]; exact h4, h5⟩, F.sep⟩
end
theorem pssd_own3 {X : Cx} {W : WX} {a t g : Expr} {sa rest : List Stmt} {f : Ev} {c : Tv} {F G : Sm} {i j : Nat} {nm nm2 : List Nat} {x : Str} {pos pos' p2 p3 : Pos}
    (hN : X.N.Nodup) (hi : X.N[i]? = some x) (hx : Loc X.env.scope x) (he : PD X W a f) (hf : X.fn x = true ∨ X.env.scope.names.lookup x = some .local)
    (hc : PTD X W t c) (ha : PSsD X W sa F)
    (hm : PE X g (tBM X.K "list" rAppend (tOp (rIx X.K) (tVar i) (tC (.int 1))) (tCons (tVar j) tNil))) (hr : PSsD X W rest G)
    (hs : swapsWith a (some (.Name x pos')) pos.line X.env = pure false := by rfl) (hs3 : swapsWith g none p3.line X.env = pure false := by rfl) :
    PSsD X W (.Assign [.Name x pos'] a pos :: .If t sa [] p2 :: .Expr g p3 :: rest) (cSeq (cOwn3 i nm f nm2 c j) G) :=
  PSs.weak (pss_cons (ps_set hN hi hx he hs hf) (pss_cons (ps_if hc ha pss_nil) (pss_cons (ps_expr hm hs3) hr))) fun D σ H h => by
    obtain ⟨H0s, H0, env, Hs, o, Fr, e, q⟩ := seq_rd h
    refine evx_ok Fr e q fun v u env1 Hs1 H1 s1 F1 gt e1 q1 => ?_
    unfold ownR at e1
    split at e1
    · rename_i a' l
      have gt2 := gt
      rcases gt with ⟨p, ob, _, _, _, _, ro, _⟩ | ⟨p, ps, xs, ds, ed, rfl, h0, hn, hp, np, r, nob⟩
      · cases ro
      · cases ed
        obtain ⟨Hs2, s2, F2, rep⟩ := gt2.share F1
        have F3 := F2.set rep i
        cases ec : c (mask nm2 (env1.set i (.sh (.tup [a', .lst l])))) with
        | none => rw [ec] at e1; cases e1
        | some rt =>
          rw [ec, Option.bind_some] at e1
          unfold grow at e1
          split at e1
          · split at e1
            · rename_i d ej
              split at e1
              · rename_i hcond
                obtain ⟨ha', hl, hlt⟩ := hcond
                have e2 := Option.some.inj e1
                subst e2
                refine ⟨mask nm2 _, _, .ok false, F3.thaw nm2, ec, ?_⟩
                intro Hs3 H3 a3
                have up : Same H1 H3 := a3.h
                have F4 := (F1.setUn (.ref p) i).stay up
                obtain ⟨w, hw, rw'⟩ := F4.sh j d ej
                cases r with
                | own _ _ _ _ _ _ => cases ha'
                | sh rx hz r =>
                  cases r with
                  | sh _ hz2 _ => cases hz2
                  | own q0 q1' q2 q3 q4 r =>
                    rename_i qa ob ps2 xs2
                    cases r
                    cases q3 with
                    | lst ry =>
                      rename_i ys
                      refine ⟨_, List.getElem?_set_self (by rw [← F1.len]; exact hlt), .inr (.inl ⟨p, _, 1, .ref qa, rfl, rfl, SqT.of (up _ _ hp), rfl, tyL (up _ _ q2), w, hw, qa, ys, w, rfl, rfl, up _ _ q2, by rw [ry.length]; exact hl, ?_⟩)⟩
                      refine q1 Hs1 _ _ (Same.refl _) (F4.loose q0 q1' fun k e2 hk hk2 => ?_)
                      by_cases hik : i = k
                      · subst hik
                        by_cases hlt : i < env1.length
                        · rw [List.getElem?_set_self hlt] at hk; cases hk
                        · rw [List.getElem?_eq_none (by simpa using hlt)] at hk; cases hk
                      · rw [List.getElem?_set_ne hik] at hk hk2
                        exact nob qa (List.mem_cons_of_mem _ (List.mem_cons_self ..)) k e2 hk hk2
              · cases e1
            · cases e1
          · cases e1
    · cases e1
/-! ### return a, b: b a new list -/
def cRet2 (nm : List Nat) (f g : Ev) : Sm := fun env => match f (mask nm env), g (mask nm env) with
  | some (.v d), some (.n (.lst l)) => if d.isLs = false then some (.rt (.n (.tup [d, .lst l]))) else none
  | _, _ => none
theorem psd_ret2 {X : Cx} {W : WX} {a b : Expr} {f g : Ev} {nm : List Nat} {kk : Nat} {pos tp : Pos} (ha : PD X W a f) (hb : PD X W b g)
    (hs : starEach (a :: [b]) X.env = (false, eval a X.env) :: starEach [b] X.env := by rfl) (hs2 : starEach (b :: []) X.env = (false, eval b X.env) :: starEach [] X.env := by rfl) : PSD X W (.Return (some (.Tuple [a, b] kk tp)) pos) (cRet2 nm f g) :=
  PS.weak (ps_ret (pe_tup (pa_cons ha (pa_cons hb pa_nil hs2) hs))) fun D σ H ⟨H0s, H0, env, Hs, o, Fr, e, q⟩ => by
    unfold cRet2 at e
    split at e
    · rename_i d l ef eg
      split at e
      · rename_i hd
        have e2 := Option.some.inj e
        subst e2
        have F0 := Fr.thaw nm
        refine ⟨mask nm env, _, .v d, F0, ef, fun v Hs1 H1 a1 rv => ?_⟩
        refine ⟨mask nm env, Hs1, .n (.lst l), F0.ext a1, eg, fun w Hs2 H2 a2 rw' => ⟨?_, fun p hp => ?_⟩⟩
        · show 2 ≤ _
          decide
        · rcases rw' with ⟨y, ob, rfl, y1, y2, y3, y4⟩ | ⟨_, _, _, _, z, _⟩
          · have ex := ((Fr.ext_lift nm).trans a1).trans a2
            have hb : Same H2 (upd H2 p (.tup [v, .ref y])) := same_upd hp
            refine q _ Hs2 _ (ex.laidN hp) (.inr ⟨p, [y], _, _, rfl, rfl, ex.h.free hp, ex.sub.free hp, upd_same, fun z => ?_, .sh (rv.mono a2.s) hd (.own (((Fr.ext_lift nm).trans a1).h.free y1) y2 (hb _ _ y3) y4 List.not_mem_nil .nil)⟩)
            rw [List.mem_singleton.1 z, y3] at hp
            cases hp
          · cases z
      · cases e
    · cases e
end HD

set_option Elab.async false
set_option linter.all false
set_option maxRecDepth 100000
set_option maxHeartbeats 4000000
/-! HDw: max of a list of tuples of whole numbers. -/
namespace HD
open PySem PySem.Spec PyProof.Rows L2
def rowD (ns : List Int) : D := .tup (ns.map .int)
def rowP (ns : List Int) : PyData := .tuple (ns.map .int)
def rowsI : List D → Option (List (List Int))
  | [] => some []
  | .tup l :: r => (D.ints l).bind fun ns => (rowsI r).map (ns :: ·)
  | _ => none
theorem ints_inv : ∀ {l : List D} {ns : List Int}, D.ints l = some ns → l = ns.map .int
  | [], ns, e => by rw [← Option.some.inj e]; rfl
  | d :: l, ns, e => by
    cases d <;> first
      | (cases e; done)
      | (rename_i i
         have e : (D.ints l).map (i :: ·) = some ns := e
         cases el : D.ints l with
         | none => rw [el] at e; cases e
         | some ms =>
           rw [el] at e
           rw [← Option.some.inj e, ints_inv el]
           rfl)
theorem rowsI_inv : ∀ {l : List D} {rs : List (List Int)}, rowsI l = some rs → l = rs.map rowD
  | [], rs, e => by rw [← Option.some.inj e]; rfl
  | d :: l, rs, e => by
    cases d <;> first
      | (cases e; done)
      | (rename_i t
         have e : ((D.ints t).bind fun ns => (rowsI l).map (ns :: ·)) = some rs := e
         cases et : D.ints t with
         | none => rw [et] at e; cases e
         | some ns =>
           rw [et, Option.bind_some] at e
           cases el : rowsI l with
           | none => rw [el] at e; cases e
           | some ms =>
             rw [el] at e
             rw [← Option.some.inj e, rowsI_inv el, ints_inv et]
             rfl)
def bigR (x : List Int) (xs : List (List Int)) : List Int := xs.foldl (fun a y => if a < y then y else a) x
def maxA : List D → Option Vn
  | [.lst ds] => match rowsI ds with
    | some (x :: xs) => some (.v (rowD (bigR x xs)))
    | _ => none
  | _ => none
theorem pys_int : ∀ ns : List Int, D.pys (ns.map .int) = ns.map .int
  | [] => by simp only [List.map_nil, D.pys]
  | n :: ns => by simp only [List.map_cons, D.pys, D.py, pys_int ns]
theorem pys_row : ∀ rs : List (List Int), D.pys (rs.map rowD) = rs.map rowP
  | [] => by simp only [List.map_nil, D.pys]
  | r :: rs => by simp only [List.map_cons, D.pys, rowD, rowP, D.py, pys_int, pys_row rs]
theorem shs_i (n : Nat) : ∀ ns : List Int, D.shs n (ns.map .int) = true
  | [] => by simp only [List.map_nil, D.shs]
  | m :: ns => by
    have h : D.sh n (.int m) = true := by cases n <;> simp only [D.sh]
    simp only [List.map_cons, D.shs, h, shs_i n ns, Bool.and_self]
theorem shs_row (n : Nat) : ∀ rs : List (List Int), D.shs (n + 1) (rs.map rowD) = true
  | [] => by simp only [List.map_nil, D.shs]
  | r :: rs => by simp only [List.map_cons, D.shs, rowD, D.sh, shs_i, shs_row n rs, Bool.and_self]
theorem rowP_inj {a b : List Int} (h : rowP a = rowP b) : a = b := by
  unfold rowP at h
  injection h with h
  have inj : ∀ (a b : List Int), a.map PyData.int = b.map PyData.int → a = b := fun a => by
    induction a with
    | nil =>
      intro b h
      cases b with
      | nil => rfl
      | cons y b => cases h
    | cons x a ih =>
      intro b h
      cases b with
      | nil => cases h
      | cons y b =>
        rw [List.map_cons, List.map_cons] at h
        injection h with h1 h2
        injection h1 with h1
        rw [h1, ih b h2]
  exact inj a b h
theorem row_lt (a b : List Int) : PySem.W.dataLt (rowP a) (rowP b) = decide (a < b) := by
  unfold rowP
  rw [PySem.W.dataLt_tuple]
  exact PySem.W.dataLt_ints a b
theorem maxD_row : ∀ (xs : List (List Int)) (x : List Int), PySem.W.maxD (rowP x) (xs.map rowP) = rowP (bigR x xs)
  | [], x => rfl
  | y :: xs, x => by
    have ih := maxD_row xs (if x < y then y else x)
    unfold PySem.W.maxD bigR at *
    rw [List.map_cons, List.foldl_cons, List.foldl_cons, ← ih, row_lt]
    by_cases h : x < y
    · rw [if_pos h, decide_eq_true h, if_pos rfl]
    · rw [if_neg h, decide_eq_false h, if_neg Bool.false_ne_true]
theorem alike_row (x : List Int) (xs : List (List Int)) : PySem.W.AlikeAll ((x :: xs).map rowP) := by
  have ai : ∀ a b : List Int, PySem.W.alikeAll (a.map PyData.int) (b.map PyData.int) = true := fun a => by
    induction a with
    | nil => intro b; rw [List.map_nil, PySem.W.alikeAll]
    | cons x a ih =>
      intro b
      cases b with
      | nil => rw [List.map_nil, List.map_cons, PySem.W.alikeAll]
      | cons y b =>
        rw [List.map_cons, List.map_cons, PySem.W.alikeAll, ih b]
        rfl
  refine ⟨fun a ha b hb => ?_, fun a ha e => ?_⟩
  · obtain ⟨r, _, rfl⟩ := List.mem_map.1 ha
    obtain ⟨q, _, rfl⟩ := List.mem_map.1 hb
    show PySem.W.alike (.tuple _) (.tuple _) = true
    rw [PySem.W.alike]
    exact ai r q
  · obtain ⟨r, _, rfl⟩ := List.mem_map.1 ha
    cases e
theorem vals_back : ∀ {xs : List V} {us : List Value} {i : Nat} {u : Value}, Vals xs us → us[i]? = some u → ∃ x, xs[i]? = some x ∧ RelV x u
  | _, _, i, u, .nil, e => by simp at e
  | _, _, 0, u, .cons r _, e => by
    have e2 := Option.some.inj e
    subst e2
    exact ⟨_, rfl, r⟩
  | _, _, i + 1, u, .cons _ rs, e => vals_back (i := i) rs e
theorem cd_maxA {X : Cx} (hc : X.calm = true) (hu : X.A.units + 64 < cLine) : CallD X (.builtin "max") maxA := fun pins s σ H vs us Q I r ⟨Hs, ds, u, sb, rp, eg, q⟩ => by
  unfold maxA at eg
  split at eg
  · rename_i dl
    split at eg
    · rename_i x xs er
      have e2 := Option.some.inj eg
      subst e2
      obtain ⟨v, rfl, h⟩ := reps1 rp
      have ed := rowsI_inv er
      subst ed
      cases h with
      | lst h1 r1 =>
        rename_i p ys
        obtain ⟨its, rv, hl, _⟩ := I.list (SqL.of (sb _ _ h1))
        rw [Vals.ref1 r]
        have dp := Reps.dp 60 _ _ (shs_row 59 (x :: xs)) (r1.mono sb)
        obtain ⟨as, hr⟩ := Dp.readsAll I _ _ its dp rv
        have dep := (shs_lay 60 _ (shs_row 59 (x :: xs))).2
        rw [pys_row] at hr dep
        refine PySem.W.max_list_data (I.ok.hd hc) hl.isList (x := rowP x) (xs := xs.map rowP) (by simpa using hr) (alike_row x xs) (by rw [List.map_cons] at dep; omega) fun i v h' tk bs hv rd hk => ?_
        have hv' : its[i]? = some v := by simpa using hv
        obtain ⟨bs2, r2, hi, _, _⟩ := PySem.W.readsAll_at hr i v hv'
        have det := (reads_det (h := s.heap) (h' := h') (fun b o e _ => hk b o e) r2 rd).1
        rw [maxD_row] at det
        obtain ⟨w, hw, rw'⟩ := vals_back rv hv'
        obtain ⟨d, hd, rd2⟩ := r1.getV hw
        rw [List.getElem?_map] at hd
        cases hg : (x :: xs)[i]? with
        | none => rw [hg] at hd; cases hd
        | some row =>
          rw [hg] at hd
          have e3 := Option.some.inj hd
          subst e3
          have e4 : (List.map rowP (x :: xs)).getD i .none = rowP row := by
            rw [List.getD_eq_getElem?_getD, List.getElem?_map, hg]
            rfl
          rw [e4] at det
          have e5 := rowP_inj det
          rw [e5] at q
          exact ⟨w, H, I.kept hk, rw', endV.here sb q rd2⟩
    · cases eg
  · cases eg
end HD

set_option Elab.async false
set_option linter.all false
set_option maxRecDepth 100000
set_option maxHeartbeats 4000000
/-! HDx: xs = [new list for ..]; if test: i = ..; k = ..; xs[i][k] = xs[i][k] + .. - z. -/
namespace HD
open PySem PySem.Spec PyProof.Rows L2
/-- elements that are new lists -/
def onlyL (f : Ev) : Ev := fun env => match f env with
  | some (.n (.lst l)) => some (.n (.lst l))
  | _ => none
section
variable {K : PySem.W.Frag} {H0s H0 : Hp} {env env' : En} {Hs H Hs' H' Hs'' H'' Hs1 H1 : Hp} {σ : Sg} {nm : List Nat} {v : V} {d : D} {ps : List Addr} {xs : List V} {ds : List D}
theorem RepP.upE (a : Ext Hs' H' Hs'' H'') (h : RepP K H Hs' H' ps xs ds) : RepP K H Hs'' H'' ps xs ds := by
  induction h with
  | nil => exact .nil
  | own h1 h2 h3 h4 h5 _ ih => exact .own h1 (a.new _ h2 (by rw [h3]; simp)) (a.h _ _ h3) (h4.mono a.s) h5 ih
  | sh r z _ ih => exact .sh (r.mono a.s) z ih
theorem RepP.updL {L : Addr} {o : HO} (h : RepP K H Hs' H' ps xs ds) (n : L ∉ ps) : RepP K H Hs' (upd H' L o) ps xs ds := by
  induction h with
  | nil => exact .nil
  | own h1 h2 h3 h4 h5 _ ih => exact .own h1 h2 (by rw [upd_ne (fun z => n (by rw [← z]; exact List.mem_cons_self ..))]; exact h3) h4 h5 (ih fun z => n (List.mem_cons_of_mem _ z))
  | sh r z _ ih => exact .sh r z (ih n)
theorem RepP.snoc {p : Addr} {o : HO} {l : List D} (h1 : H p = none) (h2 : Hs' p = none) (h3 : H' p = some o) (h4 : RepO K Hs' o (.lst l)) (h : RepP K H Hs' H' ps xs ds) (n : p ∉ ps) : RepP K H Hs' H' (ps ++ [p]) (xs ++ [.ref p]) (ds ++ [.lst l]) := by
  induction h with
  | nil => exact .own h1 h2 h3 h4 List.not_mem_nil .nil
  | @own q o' l' ps xs ds g1 g2 g3 g4 g5 _ ih =>
    refine .own g1 g2 g3 g4 (fun z => ?_) (ih fun z => n (List.mem_cons_of_mem _ z))
    rcases List.mem_append.1 z with z | z
    · exact g5 z
    · rw [List.mem_singleton.1 z] at n; exact n (List.mem_cons_self ..)
  | sh r z _ ih => exact .sh r z (ih n)
/-- one of the lists is looked at, and changed -/
theorem RepP.setAt {l : List D} (h : RepP K H Hs' H' ps xs ds) : ∀ {j : Nat}, ds[j]? = some (.lst l) →
    ∃ p ys, p ∈ ps ∧ xs[j]? = some (.ref p) ∧ H p = none ∧ Hs' p = none ∧ H' p = some (.lst ys) ∧ Reps K Hs' ys l ∧ ∀ l' ys', Reps K Hs' ys' l' → RepP K H Hs' (upd H' p (.lst ys')) ps xs (ds.set j (.lst l')) := by
  induction h with
  | nil => intro j e; simp at e
  | @own q o' l2 ps xs ds g1 g2 g3 g4 g5 g6 ih =>
    intro j e
    cases j with
    | zero =>
      rw [List.getElem?_cons_zero] at e
      cases e
      cases g4 with
      | lst r => exact ⟨q, _, List.mem_cons_self .., rfl, g1, g2, g3, r, fun l' ys' r' => .own g1 g2 upd_same (.lst r') g5 (g6.updL g5)⟩
    | succ j =>
      rw [List.getElem?_cons_succ] at e
      obtain ⟨p, ys, m, e1, n1, n2, n3, r, k⟩ := ih e
      have ne : q ≠ p := fun z => g5 (by rw [z]; exact m)
      exact ⟨p, ys, List.mem_cons_of_mem _ m, by rw [List.getElem?_cons_succ]; exact e1, n1, n2, n3, r, fun l' ys' r' => .own g1 g2 (by rw [upd_ne ne]; exact g3) g4 g5 (k l' ys' r')⟩
  | sh r z _ ih =>
    intro j e
    cases j with
    | zero =>
      rw [List.getElem?_cons_zero] at e
      rw [Option.some.inj e] at z
      cases z
    | succ j =>
      rw [List.getElem?_cons_succ] at e
      obtain ⟨p, ys, m, e1, n1, n2, n3, r', k⟩ := ih e
      exact ⟨p, ys, m, by rw [List.getElem?_cons_succ]; exact e1, n1, n2, n3, r', fun l' ys' r2 => .sh r z (k l' ys' r2)⟩
/-- a comprehension of new lists -/
theorem lc_own {X : Cx} {W : WX} {g : Iv} {T : Tg} {c : Tv} {f : Ev} {Q : VK} {vs : List Nat} (F : FrE K env Hs σ H) (e : cLc g vs T c (onlyL f) env = some (.n (.lst ds))) (hv : ∀ j ∈ T.ix, j ∈ vs)
    (hQ : ∀ L ps xs Hs2 H2, Ext Hs H Hs2 H2 → H L = none → Hs2 L = none → H2 L = some (.lst xs) → L ∉ ps → RepP K H Hs2 H2 ps xs ds → Q (.ref L) H2) :
    tLc (rdI K W g) (gOf K T) (rdT K wN c) (rdE K wN f) vs σ H Q := by
  unfold cLc at e
  cases eg : g env with
  | none => rw [eg] at e; cases e
  | some u =>
    rw [eg] at e
    refine ⟨env, Hs, u, F, eg, ?_⟩
    cases u with
    | x e' => cases e
    | ok dl fz =>
      dsimp only at e
      split at e
      case isFalse => cases e
      case isTrue hsz =>
        cases el : lcGo T c (onlyL f) (wipeE env vs) dl with
        | none => rw [el] at e; cases e
        | some total =>
          rw [el] at e
          have e2 : total = ds := by
            have := Option.some.inj e
            injection this with h1
            injection h1
          subst e2
          have htot := lcGo_len el
          intro J Hs1 H1 a1 w0 L hL
          have w := w0.up stay_sub
          have nL : Hs1 L = none := a1.sub.free hL
          refine ⟨fun i m H2 => m = dl.length - i ∧ i ≤ dl.length ∧ ∃ Hs2 ps acc done out, Ext Hs1 H1 Hs2 H2 ∧ Hs2 L = none ∧ H2 L = some (.lst acc) ∧ L ∉ ps ∧ RepP K H1 Hs2 H2 ps acc done ∧ lcGo T c (onlyL f) (wipeE env vs) (dl.drop i) = some out ∧ done ++ out = total,
            ⟨dl.length, rfl, Nat.zero_le _, Hs1, [], [], [], total, (Ext.refl a1.sub).laidN hL, nL, upd_same, List.not_mem_nil, .nil, el, rfl⟩, ?_⟩
          rintro i m H2 ⟨rfl, hi, Hs2, ps, acc, done, out, a2, n2, h2, np, r2, e2, e3⟩
          have nH1 : H1 L = none := hL
          by_cases hlt : i < dl.length
          · right
            refine ⟨w.go i H2 hlt (a2.s.trans a2.sub), fun H3 => i + 1 ≤ dl.length ∧ ∃ Hs2 ps acc done out, Ext Hs1 H1 Hs2 H3 ∧ Hs2 L = none ∧ H3 L = some (.lst acc) ∧ L ∉ ps ∧ RepP K H1 Hs2 H3 ps acc done ∧ lcGo T c (onlyL f) (wipeE env vs) (dl.drop (i + 1)) = some out ∧ done ++ out = total, fun H3 ⟨z1, z2⟩ => ⟨dl.length - (i + 1), by omega, rfl, z1, z2⟩, fun x H3 y => ?_⟩
            have hd : dl[i]? = some dl[i] := List.getElem?_eq_getElem hlt
            have hdrop : dl.drop i = dl[i] :: dl.drop (i + 1) := List.drop_eq_getElem_cons hlt
            obtain ⟨Hs3, a3, r3⟩ := w.yld i H2 Hs2 x H3 _ hd a2.s a2.sub y
            have n3 : Hs3 L = none := a3.new L n2 (by rw [h2]; simp)
            have h3 : H3 L = some (.lst acc) := a3.h _ _ h2
            have F3 : FrE K (wipeE env vs) Hs3 (L2.wipe σ vs) H3 := ((F.ext a1).ext (a2.trans a3)).wipe vs
            rw [hdrop] at e2
            unfold lcGo at e2
            cases et : T.set dl[i] (wipeE env vs) with
            | none => rw [et] at e2; cases e2
            | some env1 =>
              rw [et] at e2
              dsimp only at e2
              refine tg_frE F3 r3 et fun σ2 F4 hj => ⟨wipe_eq (by rw [← F4.len, Tg.set_len et, F3.len, L2.wipe_length]) hv hj, ?_⟩
              cases ec : c env1 with
              | none => rw [ec] at e2; cases e2
              | some rc =>
                rw [ec] at e2
                cases rc with
                | x e' => cases e2
                | ok b =>
                  refine ⟨env1, Hs3, _, F4, ec, fun Hs5 H5 a5 => ?_⟩
                  cases b with
                  | false =>
                    dsimp only at e2 ⊢
                    rw [if_neg Bool.false_ne_true]
                    exact ⟨hlt, Hs5, ps, acc, done, out, (a2.trans a3).trans a5, a5.new L n3 (by rw [h3]; simp), a5.h _ _ h3, np, (r2.upE a3).upE a5, e2, e3⟩
                  | true =>
                    dsimp only at e2 ⊢
                    rw [if_pos rfl]
                    have eo : ∃ l out', f env1 = some (.n (.lst l)) ∧ out = .lst l :: out' ∧ lcGo T c (onlyL f) (wipeE env vs) (dl.drop (i + 1)) = some out' := by
                      unfold onlyL at e2
                      split at e2
                      · rename_i y0 ey0
                        split at ey0 <;> cases ey0
                      · rename_i y0 ey0
                        split at ey0
                        · rename_i l0 el0
                          have ey1 : y0 = .lst l0 := by
                            have := Option.some.inj ey0
                            injection this with h1
                            exact h1.symm
                          subst ey1
                          change (lcGo T c (onlyL f) (wipeE env vs) (dl.drop (i + 1))).map _ = _ at e2
                          cases er : lcGo T c (onlyL f) (wipeE env vs) (dl.drop (i + 1)) with
                          | none => rw [er] at e2; cases e2
                          | some out' =>
                            rw [er] at e2
                            exact ⟨l0, out', el0, (Option.some.inj e2).symm, rfl⟩
                        · cases ey0
                      · cases e2
                    obtain ⟨l, out', ef, eo, er⟩ := eo
                    refine ⟨env1, Hs5, _, F4.ext a5, ef, fun yv Hs6 H6 a6 ry => ?_⟩
                    have a7 := (a3.trans a5).trans a6
                    have n6 : Hs6 L = none := a7.new L n2 (by rw [h2]; simp)
                    have h6 : H6 L = some (.lst acc) := a7.h _ _ h2
                    rcases ry with ⟨p, ob, rfl, hp, hn, he, ro⟩ | ⟨p, ps', xs', ds', z, _⟩
                    · have a25 := a2.trans (a3.trans a5)
                      have h5 : H5 L = some (.lst acc) := (a3.trans a5).h _ _ h2
                      have neL : L ≠ p := fun z => by rw [z, hp] at h5; cases h5
                      have npp : p ∉ ps := fun z => by
                        obtain ⟨_, _, o2, e9⟩ := ((r2.upE a3).upE a5).at p z
                        rw [hp] at e9; cases e9
                      refine ⟨acc, h6, ?_, hlt, Hs6, ps ++ [p], acc ++ [.ref p], done ++ [.lst l], out', (a2.trans a7).mut nH1 n6, n6, upd_same, ?_, ?_, er, ?_⟩
                      · have l1 : acc.length = done.length := by
                          have : ∀ {ps : List Addr} {xs : List V} {ds : List D}, RepP K H1 Hs2 H2 ps xs ds → xs.length = ds.length := fun h => by
                            induction h with
                            | nil => rfl
                            | own _ _ _ _ _ _ ih => exact congrArg (· + 1) ih
                            | sh _ _ _ ih => exact congrArg (· + 1) ih
                          exact this r2
                        have l2 : (done ++ out).length = total.length := congrArg List.length e3
                        rw [List.length_append, eo, List.length_cons] at l2
                        omega
                      · intro z
                        rcases List.mem_append.1 z with z | z
                        · exact np z
                        · exact neL (List.mem_singleton.1 z)
                      · exact ((r2.upE a7).updL np).snoc (a25.h.free hp) hn (by rw [upd_ne (Ne.symm neL)]; exact he) ro npp
                      · rw [← e3, eo, List.append_assoc] <;> rfl
                    · cases z
          · left
            have ei : i = dl.length := by omega
            subst ei
            refine ⟨w.stop H2 (a2.s.trans a2.sub), ?_⟩
            rw [List.drop_length] at e2
            have eo : out = [] := (Option.some.inj e2).symm
            subst eo
            rw [List.append_nil] at e3
            subst e3
            exact hQ L ps acc Hs2 H2 (a1.trans a2) (a1.h.free nH1) n2 h2 np (r2.of a1.h)
/-- a new list of new lists, held by nobody but a slot of which nothing is said -/
structure Loo (K : PySem.W.Frag) (H0 : Hp) (env : En) (Hs : Hp) (σ : Sg) (H : Hp) (L : Addr) (ps : List Addr) (xs : List V) (ds : List D) : Prop where
  h0 : H0 L = none
  hn : Hs L = none
  hp : H L = some (.lst xs)
  np : L ∉ ps
  r : RepP K H0 Hs H ps xs ds
  nob : ∀ q ∈ L :: ps, ∀ (j : Nat) (e : D), env[j]? = some (Slot.own e) → σ[j]? ≠ some (some (V.ref q))
theorem own_set {i j : Nat} {s : Slot} {e : D} (hs : ∀ d, s ≠ .own d) (h : (env.set i s)[j]? = some (Slot.own e)) : j ≠ i ∧ env[j]? = some (Slot.own e) := by
  by_cases hj : i = j
  · subst hj
    by_cases hl : i < env.length
    · rw [List.getElem?_set_self hl] at h
      exact absurd (Option.some.inj h) (hs e)
    · rw [List.getElem?_eq_none (by simpa using hl)] at h; cases h
  · rw [List.getElem?_set_ne hj] at h
    exact ⟨fun z => hj z.symm, h⟩
theorem Loo.up {L : Addr} (o : Loo K H0 env Hs σ H L ps xs ds) (a : Ext Hs H Hs1 H1) : Loo K H0 env Hs1 σ H1 L ps xs ds :=
  ⟨o.h0, a.new L o.hn (by rw [o.hp]; simp), a.h _ _ o.hp, o.np, o.r.upE a, o.nob⟩
theorem Loo.set {L : Addr} {s : Slot} (hs : ∀ d, s ≠ .own d) (o : Loo K H0 env Hs σ H L ps xs ds) (i : Nat) : Loo K H0 (env.set i s) Hs (σ.set i (some v)) H L ps xs ds :=
  ⟨o.h0, o.hn, o.hp, o.np, o.r, fun q hq j e h => by
    obtain ⟨hj, h'⟩ := own_set hs h
    rw [List.getElem?_set_ne (Ne.symm hj)]
    exact o.nob q hq j e h'⟩
/-- the inner lists are frozen -/
theorem Loo.done {L : Addr} {i : Nat} (o : Loo K H0 env Hs σ H L ps xs ds) (F : FrOk K H0s H0 env Hs σ H) (hσ : σ[i]? = some (some (V.ref L))) : ∃ Hs2, Same Hs Hs2 ∧ FrOk K H0s H0 (env.set i (.own (.lst ds))) Hs2 σ H := by
  obtain ⟨Hs2, g1, g2, g3, g4⟩ := RepP.share (qs := ps) (fun Hs1 => FrOk K H0s H0 env Hs1 σ H) (fun Hs1 q ob h hq hn he => h.frz1 (o.r.at q hq).1 hn he (o.nob q (List.mem_cons_of_mem _ hq))) o.r (fun _ z => z) F
  have n2 : Hs2 L = none := by rw [g4 L o.np]; exact o.hn
  have G := g1.setO o.h0 n2 o.hp (.lst g3) (o.nob L (List.mem_cons_self ..)) i
  refine ⟨Hs2, g2, ?_⟩
  have e : σ.set i (some (.ref L)) = σ := by
    refine List.ext_getElem? fun j => ?_
    by_cases hj : i = j
    · subst hj
      have hl : i < σ.length := (List.getElem?_eq_some_iff.mp hσ).1
      rw [List.getElem?_set_self hl, hσ]
    · rw [List.getElem?_set_ne hj]
  rw [e] at G
  exact G
end
def llPut (i : Nat) (ds : List D) (a b e z : Int) (env : En) : Option Out := match ixN ds.length a with
  | none => none
  | some j => match ds[j]? with
    | some (.lst l) => match ixN l.length b with
      | none => none
      | some m => match l[m]? with
        | some (.int y) => some (.nx (env.set i (.own (.lst (ds.set j (.lst (l.set m (.int (y + e - z)))))))))
        | _ => none
    | _ => none
def llInt (f : Ev) (env : En) (k : Int → Option Out) : Option Out := match f (mask [] env) with
  | some (.v (.int a)) => k a
  | _ => none
def llTest (i i1 k1 : Nat) (c : Tv) (f1 f2 f3 : Ev) (z : Int) (ds : List D) (env : En) : Option Out := match c (mask [] env) with
  | some (.ok false) => some (.nx (env.set i (.own (.lst ds))))
  | some (.ok true) => llInt f1 env fun a => llInt f2 (env.set i1 (.sh (.int a))) fun b => llInt f3 ((env.set i1 (.sh (.int a))).set k1 (.sh (.int b))) fun e => llPut i ds a b e z ((env.set i1 (.sh (.int a))).set k1 (.sh (.int b)))
  | _ => none
def cOwnLL (i i1 k1 : Nat) (lc : Ev) (c : Tv) (f1 f2 f3 : Ev) (z : Int) : Sm := fun env => match lc (mask [] env) with
  | some (.n (.lst ds)) => if i < env.length ∧ i1 < env.length ∧ k1 < env.length then llTest i i1 k1 c f1 f2 f3 z ds (env.set i .un) else none
  | _ => none
theorem lift_nil {env : En} {σ : Sg} {Hs H : Hp} : lift [] env σ Hs H = Hs := by
  funext a
  exact lift_out fun ⟨_, _, h, _⟩ => by cases h
section
variable {K : PySem.W.Frag} {H0s H0 : Hp} {env : En} {Hs H : Hp} {σ : Sg} {ps : List Addr} {xs : List V} {ds : List D}
theorem FrOk.thaw0 (F : FrOk K H0s H0 env Hs σ H) : FrE K (mask [] env) Hs σ H := by
  have := F.thaw []
  rw [lift_nil] at this
  exact this
theorem llInt_ok {W : WX} {f : Ev} {k : Int → Option Out} {o : Out} {Q : VK} (F : FrOk K H0s H0 env Hs σ H) (e : llInt f env k = some o)
    (hk : ∀ a Hs1 H1, Ext Hs H Hs1 H1 → k a = some o → Q (.int a) H1) : rdE K W f σ H Q := by
  unfold llInt at e
  split at e
  · rename_i a ef
    exact ⟨mask [] env, Hs, _, F.thaw0, ef, fun v Hs1 H1 a1 r => by cases r; exact hk a Hs1 H1 a1 e⟩
  · cases e
end
theorem at_atI {l : List V} {k : Int} {j : Nat} {v : V} (h : ixN l.length k = some j) (h2 : l[j]? = some v) : atI l k = some v := by
  unfold atI
  rw [h]
  exact h2
theorem RepP.length {K : PySem.W.Frag} {H Hs' H' : Hp} {ps : List Addr} {xs : List V} {ds : List D} (h : RepP K H Hs' H' ps xs ds) : xs.length = ds.length := by
  induction h with
  | nil => rfl
  | own _ _ _ _ _ _ ih => exact congrArg (· + 1) ih
  | sh _ _ _ ih => exact congrArg (· + 1) ih
theorem pssd_ownLL {X : Cx} {W : WX} {s0 s1 s2 s3 : Stmt} {rest : List Stmt} {t : Expr} {it : Iv} {vs : List Nat} {T : Tg} {lt c : Tv} {f f1 f2 f3 : Ev} {G : Sm} {i i1 k1 : Nat} {z : Int} {p4 : Pos}
    (ni : i ≠ i1) (nk : i ≠ k1) (nn : i1 ≠ k1)
    (h0 : PS X s0 (tAsg (tLc (rdI X.K W it) (gOf X.K T) (rdT X.K wN lt) (rdE X.K wN f) vs) (gName i))) (hv : ∀ j ∈ T.ix, j ∈ vs)
    (hc : PTD X W t c) (h1 : PS X s1 (tAsg (rdE X.K W f1) (gName i1))) (h2 : PS X s2 (tAsg (rdE X.K W f2) (gName k1)))
    (h3 : PS X s3 (tAsg (tOp (rdO X.K subD) (tOp (rdO X.K addD) (tOp (rIx X.K) (tOp (rIx X.K) (tVar i) (tVar i1)) (tVar k1)) (rdE X.K W f3)) (tC (.int z))) (gSub (tOp (rIx X.K) (tVar i) (tVar i1)) (tVar k1) rSetL)))
    (hr : PSsD X W rest G) : PSsD X W (s0 :: .If t [s1, s2, s3] [] p4 :: rest) (cSeq (cOwnLL i i1 k1 (cLc it vs T lt (onlyL f)) c f1 f2 f3 z) G) :=
  PSs.weak (pss_cons h0 (pss_cons (ps_if hc (pss_cons h1 (pss_cons h2 (pss_one h3))) pss_nil) hr)) fun D σ H h => by
    obtain ⟨H0s, H0, env, Hs, o, Fr, e, q⟩ := seq_rd h
    unfold cOwnLL at e
    split at e
    case h_2 => cases e
    case h_1 ds elc =>
      split at e
      case isFalse => cases e
      case isTrue hlen =>
        obtain ⟨l0, l1, l2⟩ := hlen
        show tLc (rdI X.K W it) (gOf X.K T) (rdT X.K wN lt) (rdE X.K wN f) vs σ H (fun x H1 => gName i x σ H1 _)
        refine lc_own (X := X) (W := W) Fr.thaw0 elc hv fun L ps xs Hs1 H1 a1 n0 n1 hL nL rp => ?_
        have hσ0 : i < σ.length := by rw [← Fr.len]; exact l0
        have F1 : FrOk X.K H0s H0 (env.set i .un) Hs1 (σ.set i (some (.ref L))) H1 := (Fr.ext' a1).setUn (.ref L) i
        have o1 : Loo X.K H0 (env.set i .un) Hs1 (σ.set i (some (.ref L))) H1 L ps xs ds := by
          refine ⟨Fr.ext.h.free n0, n1, hL, nL, rp.of Fr.ext.h, fun p hp j e2 h => ?_⟩
          obtain ⟨hj, h'⟩ := own_set (fun _ z => by cases z) h
          rw [List.getElem?_set_ne (Ne.symm hj)]
          intro hz
          obtain ⟨p2, o2, g1, _, _, g4, _⟩ := Fr.own j e2 h'
          rw [hz] at g1
          cases g1
          have hpn : H p = none := by
            rcases List.mem_cons.1 hp with rfl | hp
            · exact n0
            · exact (rp.at p hp).1
          rw [hpn] at g4; cases g4
        unfold llTest at e
        have q1 := q.up a1.s
        split at e
        · rename_i ec
          refine ⟨mask [] (env.set i .un), Hs1, _, F1.thaw0, ec, fun Hs2 H2 a2 => ?_⟩
          have e2 := Option.some.inj e
          subst e2
          obtain ⟨Hs3, s3', F3⟩ := (o1.up a2).done (i := i) (F1.ext' a2) (List.getElem?_set_self hσ0)
          exact q1 Hs3 _ _ (a2.s.trans s3') F3
        · rename_i ec
          refine ⟨mask [] (env.set i .un), Hs1, _, F1.thaw0, ec, fun Hs2 H2 a2 => ?_⟩
          refine llInt_ok (F1.ext' a2) e fun a Hs3 H3 a3 e3 => ?_
          have F3 := ((F1.ext' a2).ext' a3).set (.int a) i1
          have o3 := ((o1.up a2).up a3).set (v := .int a) (s := .sh (.int a)) (fun _ z => by cases z) i1
          refine llInt_ok F3 e3 fun b Hs4 H4 a4 e4 => ?_
          have F4 := (F3.ext' a4).set (.int b) k1
          have o4 := (o3.up a4).set (v := .int b) (s := .sh (.int b)) (fun _ z => by cases z) k1
          -- the right side
          have v0 : (((σ.set i (some (.ref L))).set i1 (some (.int a))).set k1 (some (.int b)))[i]? = some (some (V.ref L)) := by
            rw [List.getElem?_set_ne (Ne.symm nk), List.getElem?_set_ne (Ne.symm ni), List.getElem?_set_self hσ0]
          have v1 : (((σ.set i (some (.ref L))).set i1 (some (.int a))).set k1 (some (.int b)))[i1]? = some (some (V.int a)) := by
            rw [List.getElem?_set_ne (Ne.symm nn), List.getElem?_set_self (by rw [List.length_set, ← Fr.len]; exact l1)]
          have v2 : (((σ.set i (some (.ref L))).set i1 (some (.int a))).set k1 (some (.int b)))[k1]? = some (some (V.int b)) := by
            rw [List.getElem?_set_self (by rw [List.length_set, List.length_set, ← Fr.len]; exact l2)]
          unfold llInt at e4
          split at e4
          case h_2 => cases e4
          case h_1 ev ef3 =>
            unfold llPut at e4
            split at e4
            · cases e4
            · rename_i j ej
              split at e4
              case h_2 => cases e4
              case h_1 l ed =>
                split at e4
                · cases e4
                · rename_i m em
                  split at e4
                  case h_2 => cases e4
                  case h_1 y ey =>
                    have e5 := Option.some.inj e4
                    subst e5
                    have seeA : ∀ {Hs H}, Loo X.K H0 ((((env.set i .un).set i1 (.sh (.int a))).set k1 (.sh (.int b)))) Hs (((σ.set i (some (.ref L))).set i1 (some (.int a))).set k1 (some (.int b))) H L ps xs ds → ∃ p ys, p ∈ ps ∧ xs[j]? = some (.ref p) ∧ atI xs a = some (.ref p) ∧ H p = some (.lst ys) ∧ Hs p = none ∧ ixN ys.length b = some m ∧ atI ys b = some (.int y) ∧ Reps X.K Hs ys l ∧ ∀ l' ys', Reps X.K Hs ys' l' → RepP X.K H0 Hs (upd H p (.lst ys')) ps xs (ds.set j (.lst l')) := by
                      intro Hs H o
                      obtain ⟨p, ys, g1, g2, g3, g4, g5, g6, g7⟩ := o.r.setAt ed
                      have ej' : ixN xs.length a = some j := by rw [o.r.length]; exact ej
                      have em' : ixN ys.length b = some m := by rw [g6.length]; exact em
                      obtain ⟨v, g8, g9⟩ := g6.get ey
                      cases g9
                      exact ⟨p, ys, g1, g2, at_atI ej' g2, g5, g4, em', at_atI em' g8, g6, g7⟩
                    obtain ⟨p, ys, g1, g2, g3, g4, g5, g6, g7, g8, g9⟩ := seeA o4
                    refine ⟨_, v0, _, v1, .inl ⟨L, xs, a, _, rfl, rfl, SqL.of o4.hp, g3, _, v2, .inl ⟨p, ys, b, _, rfl, rfl, SqL.of g4, g7, ?_⟩⟩⟩
                    refine ⟨_, Hs4, _, F4.thaw0, ef3, fun v5 Hs5 H5 a5 r5 => ?_⟩
                    refine ⟨Hs5, .int y, .int ev, _, a5.sub, .int _, r5, rfl, fun v6 Hs6 H6 a6 r6 => ?_⟩
                    refine ⟨Hs6, .int (y + ev), .int z, _, a6.sub, r6, .int _, rfl, fun v7 Hs7 H7 a7 r7 => ?_⟩
                    have o7 := ((o4.up a5).up a6).up a7
                    have F7 := ((F4.ext' a5).ext' a6).ext' a7
                    obtain ⟨p, ys, g1, g2, g3, g4, g5, g6, g7, g8, g9⟩ := seeA o7
                    refine ⟨_, v0, _, v1, .inl ⟨L, xs, a, _, rfl, rfl, SqL.of o7.hp, g3, _, v2, p, ys, b, m, rfl, rfl, g4, g6, ?_⟩⟩
                    have neL : L ≠ p := fun z => o7.np (by rw [z]; exact g1)
                    have F8 := F7.loose (o := .lst (ys.set m v7)) (o7.r.at p g1).1 g5 (o7.nob p (List.mem_cons_of_mem _ g1))
                    have o8 : Loo X.K H0 _ Hs7 _ (upd H7 p (.lst (ys.set m v7))) L ps xs (ds.set j (.lst (l.set m (.int (y + ev - z))))) :=
                      ⟨o7.h0, o7.hn, by rw [upd_ne neL]; exact o7.hp, o7.np, g9 _ _ (Reps.set r7 m g8), o7.nob⟩
                    obtain ⟨Hs9, s9, F9⟩ := o8.done (i := i) F8 v0
                    exact q1 Hs9 _ _ (((((a2.s.trans a3.s).trans a4.s).trans a5.s).trans a6.s).trans (a7.s.trans s9)) F9
        · cases e
end HD

set_option Elab.async false
set_option linter.all false
set_option maxRecDepth 100000
set_option maxHeartbeats 4000000
/-! HDy: dicts of one's own whose keys are tuples of four whole numbers, not all of them nought. -/
namespace HD
open PySem PySem.Spec PyProof.Rows L2
def cNewT : Ev := fun _ => some (.n (.dit []))
theorem pd_newT {X : Cx} {W : WX} {pos : Pos} : PD X W (.Dict [] [] pos) cNewT := pd_of pe_dnewT fun σ H Q env Hs r F e q => by
  have e2 := Option.some.inj e
  subst e2
  exact fun p hp => endV.newN F.sub q hp (.dit .nil)
def isDt (i : Nat) (env : En) : Bool := match env[i]? with
  | some (.own (.dit _)) => true
  | _ => false
/-- the key of four whole numbers, not all of them nought -/
def key4D : D → Option (List Key)
  | .tup ds => if fourD ds = true then keysOf ds else none
  | _ => none
def onDit (i : Nat) (env : En) (k : List Key) (d : D) : Option Out := match env[i]? with
  | some (.own (.dit l)) => if l.length < sizeLine then some (.nx (env.set i (.own (.dit (putT l k d))))) else none
  | _ => none
def cPutT (i : Nat) (nm : List Nat) (f ix : Ev) : Sm := fun env => evx nm f env fun u env1 => if isDt i env1 then evx nm ix env1 fun w env2 => match key4D w.d with
  | some k => onDit i env2 k u.d
  | none => none else none
theorem four_rep' {K : PySem.W.Frag} {H : Hp} {vs : List V} {ds : List D} (r : Reps K H vs ds) (h : fourD ds = true) : four4 vs = true := by
  unfold fourD at h
  split at h
  · cases r with
    | cons r1 r => cases r with
      | cons r2 r => cases r with
        | cons r3 r => cases r with
          | cons r4 r =>
            cases r1; cases r2; cases r3; cases r4; cases r
            exact h
  · cases h
section
variable {X : Cx} {W : WX} {K : PySem.W.Frag} {H0s H0 : Hp} {env env' : En} {Hs H Hs1 H1 : Hp} {σ : Sg} {nm : List Nat} {v : V} {d : D} {D' : Ends} {o : Out} {f : Ev} {Q : VK}
  {i j : Nat} {x y : Str} {a b tg : Expr} {pos p ap cp : Pos} {to : TE}
theorem isDt_at (Fr : FrOk K H0s H0 env Hs σ H) (h : isDt i env = true) : ∃ p kvs l, env[i]? = some (Slot.own (.dit l)) ∧ σ[i]? = some (some (V.ref p)) ∧ H p = some (.dT kvs) ∧ RepT K Hs kvs l := by
  unfold isDt at h
  split at h
  · rename_i l ei
    obtain ⟨p, ob, h1, h2, h3, h4, h5⟩ := Fr.own i _ ei
    cases h5 with
    | dit r => exact ⟨p, _, l, ei, h1, h4, r⟩
  · cases h
theorem onDit_at {k : List Key} (Fr : FrOk K H0s H0 env Hs σ H) (e : onDit i env k d = some o) (q : endS K W H0s H0 Hs D' o) :
    ∃ p kvs l, σ[i]? = some (some (V.ref p)) ∧ H p = some (.dT kvs) ∧ kvs.length < sizeLine ∧ RepT K Hs kvs l ∧ ∀ v, Rep K Hs v d → D'.nx σ (upd H p (.dT (putK kvs k v))) := by
  unfold onDit at e
  split at e
  · rename_i l ei
    obtain ⟨p, ob, h1, h2, h3, h4, h5⟩ := Fr.own i _ ei
    cases h5 with
    | dit r =>
      split at e
      · rename_i hl
        have e2 := Option.some.inj e
        subst e2
        exact ⟨p, _, l, h1, h4, by rw [r.length]; exact hl, r, fun v r' => q Hs σ _ (Same.refl _) (Fr.mut ei h1 (.dit (r.put r')))⟩
      · cases e
  · cases e
/-- such a key is tracked -/
theorem key4_at {k : List Key} (e : key4D d = some k) (r : Rep K Hs v d) : ∃ b, v = .ref b ∧ Hs b = some (.tup (k.map kV)) := by
  unfold key4D at e
  split at e
  · rename_i ds
    split at e
    · rename_i hf
      cases r with
      | tup h r =>
        have h4 := four_rep' r hf
        have e3 := keysOf_rep e r
        subst e3
        rcases h with h | ⟨h, _⟩
        · exact ⟨_, rfl, h⟩
        · rw [h4] at h; cases h
    · cases e
  · cases e
/-- x[k] = e: a dict whose keys are such tuples -/
theorem psd_putT {ix : Ev} {k : Expr} {tp : Pos} (hu : X.A.units + 1 < cLine) (he : PD X W a f) (hv : PE X b (tVar i)) (hi : PD X W k ix) (hg : PG X (.Subscript b k tp) (gSub (tVar i) (rdE X.K W ix) rSetD))
    (hs : swapsWithSole [.Subscript b k tp] a pos.line X.env = pure false := by rfl) (hw : swappedStores [.Subscript b k tp] a X.env = pure none := by rfl)
    (h1 : (assignEach [.Subscript b k tp] X.env).map (·.2) = [assign (.Subscript b k tp) X.env] := by rfl) : PSD X W (.Assign [.Subscript b k tp] a pos) (cPutT i nm f ix) :=
  PS.weak (ps_asg he hg hs hw h1) fun D σ H ⟨H0s, H0, env, Hs, o, Fr, e, q⟩ => by
    unfold cPutT at e
    refine evx_ok Fr e q fun v u env1 Hs1 H1 s1 F1 gt e1 q1 => ?_
    split at e1
    case isFalse => cases e1
    case isTrue hl =>
      obtain ⟨p, kvs, l, h1, h2, h3, h4⟩ := isDt_at F1 hl
      obtain ⟨Hs2, s2, F2, r2⟩ := gt.share F1
      refine ⟨_, h2, evx_ok F2 e1 (q1.up s2) fun w z env2 Hs3 H3 s3 F3 gt3 e3 q3 => ?_⟩
      obtain ⟨Hs4, s4, F4, r4⟩ := gt3.share F3
      split at e3
      · rename_i kk ek
        obtain ⟨p', kvs', l1, g1, g2, g3, g4, g5⟩ := onDit_at F4 e3 (q3.up s4)
        rw [h2] at g1
        cases g1
        obtain ⟨kb, rfl, hb⟩ := key4_at ek r4
        exact ⟨p, _, rfl, .inr ⟨kvs', kk, kb, g2, rfl, F4.sub _ _ hb, g3, rfl⟩, g5 _ ((r2.mono s3).mono s4)⟩
      · cases e3
end
end HD

set_option Elab.async false
set_option linter.all false
set_option maxRecDepth 100000
set_option maxHeartbeats 4000000
/-! HDz: a dict display of two texts; len(set(x)), x a list of unlike tuples of whole numbers. -/
namespace HD
open PySem PySem.Spec PyProof.Rows L2
/-! ### {"a": e, "b": f} -/
def cDsp2 (k1 k2 : Str) (f g : Ev) : Ev := fun env => bindR (f env) fun a => bindR (g env) fun b => some (.n (.dic [(.str k1, a), (.str k2, b)]))
theorem pd_dsp2 {X : Cx} {W : WX} {k1 k2 : Str} {e1 e2 a b : Expr} {f g : Ev} {pos : Pos} (hne : k1 ≠ k2) (h1 : PE X e1 (tC (.str k1))) (h2 : PE X e2 (tC (.str k2))) (ha : PD X W a f) (hb : PD X W b g) :
    PD X W (.Dict [some e1, some e2] [a, b] pos) (cDsp2 k1 k2 f g) :=
  pd_of (pe_disp (pps_cons h1 ha (pps_cons h2 hb pps_nil)) rfl rfl (by simp) (show 2 ≤ 15 by decide)) fun σ H Q env Hs r F e q => by
    intro p hp
    have ns := F.sub.free hp
    have a0 : Ext Hs H Hs (upd H p (.dK [])) := (Ext.refl F.sub).laidN hp
    refine rd_bind (F.ext a0) e (q.ext a0) fun v d Hs1 H1 a1 F1 r1 e1 q1 => ?_
    refine rd_bind F1 e1 q1 fun w d2 Hs2 H2 a2 F2 r2 e2 q2 => ?_
    have e3 := Option.some.inj e2
    subst e3
    have hp2 : H2 p = some (.dK []) := (a1.trans a2).h _ _ upd_same
    have n2 : Hs2 p = none := (a1.trans a2).new p ns (by rw [upd_same]; simp)
    have hm : mergeK [] [((.inr k1 : Key), v), (.inr k2, w)] = [(.inr k1, v), (.inr k2, w)] := by
      have hk : ¬ ((.inr k1 : Key) = .inr k2) := fun z => hne (Sum.inr.inj z)
      simp [mergeK, putK, hk]
    refine ⟨hp2, [(.inr k1, v), (.inr k2, w)], rfl, (show 2 ≤ 15 by decide), ?_⟩
    rw [hm]
    exact q (.ref p) Hs2 _ (((a0.trans a1).trans a2).mut hp n2) (.inl ⟨p, _, rfl, hp, n2, upd_same, .dic (.cons (k := .inr k1) (r1.mono a2.s) (.cons (k := .inr k2) r2 .nil))⟩)
/-! ### len(set(x)) -/
section
variable {X : Cx}
def tLenSetT (K : PySem.W.Frag) (ta : TE) : TE := fun σ H Q => ta σ H fun x H1 => ∃ (l : Addr) (ks : List (Addr × List Int)), x = V.ref l ∧ SqL K H1 l (ks.map fun p => V.ref p.1) ∧ (∀ p ∈ ks, SqT K H1 p.1 (p.2.map V.int)) ∧ ks.length < 64 ∧ (ks.map (·.2)).Nodup ∧ Q (.int ks.length) H1
abbrev fLenSetT (K : PySem.W.Frag) (x : V) (H1 : Hp) (Q : VK) : Prop := ∃ (l : Addr) (ks : List (Addr × List Int)), x = V.ref l ∧ SqL K H1 l (ks.map fun p => V.ref p.1) ∧ (∀ p ∈ ks, SqT K H1 p.1 (p.2.map V.int)) ∧ ks.length < 64 ∧ (ks.map (·.2)).Nodup ∧ Q (.int ks.length) H1
theorem pe_lenSetT {a : Expr} {ta : TE} {p p2 q pos : Pos} (hc : X.calm = true) (hu : X.A.units + 64 < cLine) (hg : Gl X "len") (hm : X.mg "len" = none) (hg2 : Gl X "set") (hm2 : X.mg "set" = none) (ha : PE X a ta)
    (na : starEach [a] X.env = (false, eval a X.env) :: starEach [] X.env := by rfl) : PE X (.Call (.Name "len" p) [.Call (.Name "set" p2) [a] [] q] [] pos) (tLenSetT X.K ta) :=
  pe_lenSetOf (φ := fLenSetT X.K) hg hm hg2 hm2 ha na fun pins s σ H x v Q I r ⟨l, ks, ex, hl, hk, hf, hnd, q1⟩ => by
    subst ex
    cases r
    obtain ⟨its, rv, pl, _⟩ := I.list hl
    refine call_set_tups (P := X.prog) (w := X.w) ks (I.ok.hd hc) pl.isList (by simpa using refs_of_vals rv) (fun p hp => I.isT (hk p hp)) hf (Nat.lt_of_le_of_lt (by simp [Around.in1]) hu) fun g tk L es ep t R met old => ?_
    have all : (L.map (·.2)).Perm (ks.map (·.2)) := by
      refine (List.perm_ext_iff_of_nodup R.nd hnd).2 fun z => ?_
      simp only [List.mem_map]
      exact ⟨fun ⟨p, hp, e⟩ => ⟨p, List.mem_of_mem_take (met.sub p hp), e⟩, fun ⟨p, hp, e⟩ => List.mem_map.1 (e ▸ met.all p (by rwa [List.take_length]))⟩
    have n : es.size = ks.length := (SetTR.size (s := { s with heap := g, toks := tk }) R).trans (by simpa using all.length_eq)
    have I2 : Inv X pins σ H { s with heap := g, toks := tk } := I.kept old
    exact R.ob.elim fun o z => call_len_set z.1 z.2.1 z.2.2 (SetTR.fits (s := { s with heap := g, toks := tk }) R) (by rw [n] <;> omega) ⟨.int ks.length, H, I2.tok _, ⟨_, by rw [n]⟩, q1⟩
end
def lenSetN : List D → Option Vn
  | [.lst ds] => match rowsI ds with
    | some rs => if rs.length < 64 ∧ rs.Nodup then some (.v (.int rs.length)) else none
    | none => none
  | _ => none
theorem rows_ks {K : PySem.W.Frag} {H : Hp} : ∀ {rs : List (List Int)} {xs : List V}, Reps K H xs (rs.map rowD) → ∃ ks : List (Addr × List Int), xs = ks.map (fun p => V.ref p.1) ∧ ks.map (·.2) = rs ∧ ∀ p ∈ ks, SqT K H p.1 (p.2.map V.int)
  | [], _, r => by
    cases r
    exact ⟨[], rfl, rfl, fun p hp => (nomatch hp)⟩
  | row :: rs, _, r => by
    rw [List.map_cons] at r
    cases r with
    | cons h r =>
      obtain ⟨ks, h1, h2, h3⟩ := rows_ks r
      unfold rowD at h
      cases h with
      | tup ht hr =>
        rename_i a ys
        have e := ints_rep (ds := row.map .int) (ns := row) (by
          clear hr ht h1 h2 h3 r
          induction row with
          | nil => rfl
          | cons n ns ih => rw [List.map_cons]; show (D.ints (ns.map .int)).map (n :: ·) = _; rw [ih]; rfl) hr
        subst e
        exact ⟨(a, row) :: ks, by rw [h1]; rfl, by rw [← h2]; rfl, fun p hp => by
          rcases List.mem_cons.1 hp with rfl | hp
          · exact ht.t
          · exact h3 p hp⟩
theorem pd_lenSetT {X : Cx} {W : WX} {a : Expr} {f : Ev} {p p2 q pos : Pos} (hc : X.calm = true) (hu : X.A.units + 64 < cLine) (hg : Gl X "len") (hm : X.mg "len" = none) (hg2 : Gl X "set") (hm2 : X.mg "set" = none) (ha : PD X W a f)
    (na : starEach [a] X.env = (false, eval a X.env) :: starEach [] X.env := by rfl) : PD X W (.Call (.Name "len" p) [.Call (.Name "set" p2) [a] [] q] [] pos) (cCB lenSetN [f]) :=
  pd_of (pe_lenSetT hc hu hg hm hg2 hm2 ha na) fun σ H Q env Hs r F e q => by
    unfold cCB evs at e
    have e' : bindR (f env) (fun d => (lenSetN [d]).map Vn.r) = some r := by
      cases ef : f env with
      | none => rw [ef] at e; cases e
      | some u => rw [ef] at e; cases u <;> exact e
    refine rd_bind F e' q fun v d Hs1 H1 a1 F1 r1 e1 q1 => ?_
    unfold lenSetN at e1
    split at e1
    · rename_i ds ed
      split at e1
      · rename_i rs er
        split at e1
        · rename_i hh
          have ed' : d = .lst ds := by
            have := List.cons.inj ed
            exact this.1
          subst ed'
          have e3 := Option.some.inj e1
          subst e3
          have el := rowsI_inv er
          subst el
          cases r1 with
          | lst h1 rr =>
            obtain ⟨ks, k1, k2, k3⟩ := rows_ks rr
            subst k1
            have kl : ks.length = rs.length := by rw [← k2, List.length_map]
            refine ⟨_, ks, rfl, SqL.of (F1.sub _ _ h1), fun p hp => same_sqt F1.sub (k3 p hp), by rw [kl]; exact hh.1, by rw [k2]; exact hh.2, ?_⟩
            rw [kl]
            exact endV.here F1.sub q1 (.int _)
        · cases e1
      · cases e1
    · cases e1
end HD

set_option Elab.async false
set_option linter.all false
set_option maxRecDepth 100000
set_option maxHeartbeats 4000000
/-! HEa: text.endswith(text); xs.index(None), xs a list of whole numbers and Nones. -/
namespace HD
open PySem PySem.Spec PyProof.Rows L2
def endsD (a : Str) : D → Option Vn
  | .str b => some (.v (.bl (Txt.endswith a b)))
  | _ => none
theorem md_ends {X : Cx} : MtR X "str.endswith" (rM1 X.K endsD) := MtR.weak mt_endswith fun x xs H Q ⟨Hs, a, v, e, u, e1, e2, sb, r, eg, q⟩ => by
  subst e1
  subst e2
  unfold endsD at eg
  split at eg
  · have e4 := Option.some.inj eg
    subst e4
    cases r
    exact ⟨_, _, rfl, rfl, endV.here sb q (.bl _)⟩
  · cases eg
theorem pd_ends {X : Cx} {W : WX} {o e : Expr} {f k : Ev} {apos pos : Pos} (ho : PD X W o f) (he : PD X W e k) (hs : starEach [e] X.env = [(false, eval e X.env)] := by rfl) (hbase : attributeBase o "endswith" X.env (eval o X.env) = eval o X.env := by rfl) (hline : (apos.endLine == pos.line) = true := by rfl) :
    PD X W (.Call (.Attribute o "endswith" apos) [e] [] pos) (cM1 endsD f k) := pd_m1 F.slot_str_endswith F.type_str_endswith md_ends ho he hs hbase hline
/-! ### index(None) -/
def inB2 : D → Bool
  | .int _ => true
  | .non => true
  | _ => false
/-- the first place of None -/
def idxN : List D → Option Nat
  | [] => none
  | .non :: r => if r.all inB2 = true then some 0 else none
  | .int _ :: r => (idxN r).map (· + 1)
  | _ => none
theorem inB2_flat {K : PySem.W.Frag} {H : Hp} : ∀ {xs : List V} {ds : List D}, Reps K H xs ds → ds.all inB2 = true → xs.all flatV = true
  | _, _, .nil, _ => rfl
  | _, _, .cons (d := d) h r, e => by
    rw [List.all_cons, Bool.and_eq_true] at e
    rw [List.all_cons, inB2_flat r e.2, Bool.and_true]
    cases h with
    | int i => rfl
    | non => rfl
    | _ => exact absurd e.1 (by simp [inB2])
theorem idxN_rep {K : PySem.W.Frag} {H : Hp} : ∀ {ds : List D} {xs : List V} {j : Nat}, idxN ds = some j → Reps K H xs ds → xs.all flatV = true ∧ xs[j]? = some .non ∧ ∀ (m : Nat) (z : V), m < j → xs[m]? = some z → eqV z .non = false
  | d :: ds, _, j, e, .cons h r => by
    unfold idxN at e
    split at e
    · cases e
    · rename_i heq
      cases heq
      split at e
      · rename_i ha
        have e2 := Option.some.inj e
        subst e2
        cases h
        refine ⟨?_, rfl, fun m z hm => absurd hm (Nat.not_lt_zero _)⟩
        rw [List.all_cons, inB2_flat r ha]
        rfl
      · cases e
    · rename_i i rr heq
      cases heq
      cases hj : idxN ds with
      | none => rw [hj] at e; cases e
      | some k =>
        rw [hj] at e
        have e2 := Option.some.inj e
        subst e2
        obtain ⟨a, b, c⟩ := idxN_rep hj r
        cases h
        refine ⟨by rw [List.all_cons, a]; rfl, b, fun m z hm hz => ?_⟩
        cases m with
        | zero =>
          have := Option.some.inj hz
          subst this
          rfl
        | succ m => exact c m z (Nat.lt_of_succ_lt_succ hm) hz
    · cases e
def idxD : D → Option Vn
  | .lst l => (idxN l).map fun j => .v (.int (j : Nat))
  | _ => none
def cIdxN (f : Ev) : Ev := fun env => bindR (f env) fun d => (idxD d).map Vn.r
theorem pd_idxN {X : Cx} {W : WX} {o : Expr} {f : Ev} {apos pos p2 : Pos} {j2 : Nat} (ho : PD X W o f)
    (hbase : attributeBase o "index" X.env (eval o X.env) = eval o X.env := by rfl)
    (hfew : ((backTo pos (starEach [.Constant .none j2 p2] X.env)).all (fun x => !x.1) && (backToKw pos (keywordEach [] X.env)).all (fun x => x.1.isSome)
      && decide (([.Constant .none j2 p2] : List Expr).length + ([] : List Keyword).length + (if ([] : List Keyword).isEmpty then 0 else 1) < 30)) = true := by rfl)
    (hline : (apos.endLine == pos.line) = true := by rfl) (hs : starEach [.Constant .none j2 p2] X.env = (false, eval (.Constant .none j2 p2) X.env) :: starEach [] X.env := by rfl) (hplain : (backTo pos (starEach [] X.env)).any (·.1) = false := by rfl) :
    PD X W (.Call (.Attribute o "index" apos) [.Constant .none j2 p2] [] pos) (cIdxN f) :=
  pd_of (pe_bm PySem.F.plainAttrs_list PySem.F.slot_list_index PySem.F.type_list_index mt_index ho (pa_cons pe_non pa_nil hs) hbase hfew hline hs hplain) fun σ H Q env Hs r F e q => rd_bind F e q fun v d Hs1 H1 a1 F1 r1 e1 q1 => by
    unfold idxD at e1
    split at e1
    · rename_i l
      cases hj : idxN l with
      | none => rw [hj] at e1; cases e1
      | some k =>
        rw [hj] at e1
        have e2 := Option.some.inj e1
        subst e2
        cases r1 with
        | lst h1 rr =>
          obtain ⟨a, b, c⟩ := idxN_rep hj rr
          exact ⟨tyL (F1.sub _ _ h1), _, _, .non, k, .non, rfl, rfl, SqL.of (F1.sub _ _ h1), rfl, a, b, rfl, c, endV.here F1.sub q1 (.int _)⟩
    · cases e1
end HD

set_option Elab.async false
set_option linter.all false
set_option maxRecDepth 100000
set_option maxHeartbeats 4000000
/-! HEb: try: .. except T as n: y = n; z = n.fld  except U as n: y = n -/
namespace HD
open PySem PySem.Spec PyProof.Rows L2
section
variable {X : Cx} {x n : Str} {c : Value} {i : Nat} {ss : List Stmt} {s0 : Stmt} {np pos pos' : Pos} {ts : Addr → Value → Option Addr → TS} {Wout : WX} {pins : List (Addr × Obj)} {D : Ends}
  {σ : Sg} {H : Hp} {t sI : Shared} {B g : Heap} {a : Addr} {cls : Value} {d : Option Addr} {hds : List ExceptHandler} {b : Bool}
/-- no clause is left -/
theorem keep_none (hs : X.stack = X.env :: X.outer) (hf : X.env.frame = some X.env.locals) (tk : Takes X Wout) (J : Inv X pins σ H sI) (nb : ∀ b o, sI.heap.get? b = some o → b ∉ frs X.stack → B.get? b = some o) (ug : sI.heap.UpToSlots g) (os : t.os = sI.os) (ag : AllBare t.gens)
    (fl : PySem.HandSPX.FlyingZ B (X.env :: X.outer) a (Zc cls d) g) (na : H a = none) (w : Wout cls d σ H) : wpAny (model X.prog X.w) X.A (handleBy (.ref a) X.env []) (SP X pins D) X.xe { t with heap := g } := by
  refine wpAny_handleBy_nil ?_
  obtain ⟨oe2, vs2, T, oT, tv, q1, q2, q3, q4, q5⟩ := fl.2.2.2
  have fin : wpAny (model X.prog X.w) X.A (setFlight (.ref a) X.env.frame) (fun _ s4 => wpAny (model X.prog X.w) X.A (throw (.ref a) : Sem Flow) (SP X pins D) X.xe s4) X.xe { t with heap := g } := by
    rw [hf]
    refine PySem.HandSPX.setFlight_upZ fl fun g4 held up4 => wpAny_throw (tk _ _ ⟨a, B, sI, pins, σ, H, cls, d, rfl, J, nb, ug.trans up4, ?_, na, os, ag, w⟩)
    rw [hs]
    exact .inr (.inr held)
  unfold PySem.passOn
  refine wpAny_bind (wpAny_field q1 q3 q4 ?_)
  rw [if_neg (by simp)]
  first
    | exact wpAny_bind (wpAny_pure (wpAny_bind fin))
    | exact wpAny_bind fin
/-- one clause, the others behind it -/
theorem keep_clause (ok : X.Ok) (hs : X.stack = X.env :: X.outer) (hf : X.env.frame = some X.env.locals) (hN : X.N.Nodup) (hi : X.N[i]? = some n) (hln : X.env.kindOf n = some .local) (hc : Names X x c)
    (hsu : ∀ (a : Addr) (oe : Obj) (cls : Value) (d : Option Addr) (pn : List (Addr × Obj)), Zc cls d oe → (∃ vs, oe.data = .fields vs) → PSs (X.suite a ((a, oe) :: pn)) (s0 :: ss) (ts a cls d))
    (J : Inv X pins σ H sI) (nb : ∀ b o, sI.heap.get? b = some o → b ∉ frs X.stack → B.get? b = some o) (ug : sI.heap.UpToSlots g) (os : t.os = sI.os) (ag : AllBare t.gens)
    (fl : PySem.HandSPX.FlyingZ B (X.env :: X.outer) a (Zc cls d) g) (na : H a = none) (hb : PySem.W.exmOne X.K cls c = some b)
    (yes : b = true → ∀ a, H a = none → ts a cls d { nx := fun σ' H' => D.nx (σ'.set i none) (upd H' a (Xv cls d a)), rt := D.rt, bk := fun σ' H' => D.bk (σ'.set i none) H', ct := fun σ' H' => D.ct (σ'.set i none) H' } (σ.set i (some (.ref a))) H)
    (no : b = false → wpAny (model X.prog X.w) X.A (handleBy (.ref a) X.env hds) (SP X pins D) X.xe { t with heap := g }) :
    wpAny (model X.prog X.w) X.A (handleBy (.ref a) X.env (.ExceptHandler (some (.Name x np)) (some n) (s0 :: ss) pos' :: hds)) (SP X pins D) X.xe { t with heap := g } := by
  have L : Lain X pins σ H t B a cls d g := lain_of hs J nb ug os ag fl
  obtain ⟨oe, vs, hz, hd, S⟩ := L.suite hf na
  have ha : g.get? a = some oe := (S.pin (a, oe) (List.mem_append_left _ List.mem_cons_self)).1
  refine wpAny_handleBy_cons (codeAny_handlers_test ?_) (fun z => nomatch z)
  have ty : PySem.W.Looks (model X.prog X.w) g (typeOf (.ref a)) cls := fun A0 Q0 E0 s9 k q => wpAny_typeOf_ref (k _ _ ha) (by rw [hz.1]; exact q)
  have mt := PySem.W.exm_one (M := model X.prog X.w) L.inv.kIn ty hb
  have nm : ∀ {Q0 : Value → Shared → Prop} {E0 : Value → Shared → Prop}, Q0 c { t with heap := g } → wpAny (model X.prog X.w) (X.A.mark (some (.ref a))) (eval (.Name x np) X.env) Q0 E0 { t with heap := g } := fun {Q0 E0} q => by
    obtain ⟨c1, c2, c3⟩ := hc
    rcases c3 with c3 | ⟨c3, c4, c5⟩
    · exact ld_glob (X := X.suite a ((a, oe) :: (X.pn ++ pins))) S c1 c3 q c2
    · exact ld_blt (X := X.suite a ((a, oe) :: (X.pn ++ pins))) S c1 c3 c4 q c5 c2
  refine nm (mt.here ?_)
  have newA := L.fresh hs nb
  have nw : ∀ b o, X.s_0.heap.get? b = some o → b ∉ X.ex → b ≠ a := fun b o e hx z => by
    obtain ⟨o', q⟩ := J.base.there b o e hx
    rw [z, newA] at q
    cases q
  have npn : ∀ p ∈ X.pn ++ pins, p.1 ≠ a := fun p hp z => by
    have q := (J.pin p hp).1
    rw [z, newA] at q
    cases q
  cases b with
  | true =>
    refine codeAny_handlers_suite_as (PySem.HandSPX.lands_againZ fl fun g4 fl4 up4 => ?_)
    have L4 : Lain X pins σ H t B a cls d g4 := lain_of hs J nb (ug.trans up4) os ag fl4
    obtain ⟨oe4, vs4, hz4, hd4, S4⟩ := L4.suite hf na
    refine store_ok (X := X.suite a ((a, oe4) :: (X.pn ++ pins))) (v := .ref a) S4 hN hi (.inl hln) rfl (fun s5 S5 => ?_) (.inr hln)
    refine wpAny_mono ((hsu a oe4 cls d (X.pn ++ pins) hz4 ⟨vs4, hd4⟩).run [] s5 _ H _ S5 (yes rfl a na)) (fun f s6 h6 => ?_) (fun _ _ z => z.elim)
    have fin := keep_suite (pos' := pos') ok hN hi hln hz4 hd4 (L4.nL hf) nw npn h6
    cases f <;> exact fin
  | false => exact no rfl
end
section
variable {X : Cx} {x1 x2 n : Str} {c1 c2 : Value} {i : Nat} {body ss ss2 : List Stmt} {s0 s02 : Stmt} {np np2 pos pos' pos2 : Pos} {tb : WX → TS} {ts ts2 : Addr → Value → Option Addr → TS} {Wout : WX}
theorem keep_meets2 {pins : List (Addr × Obj)} {D : Ends} (ok : X.Ok) (hs : X.stack = X.env :: X.outer) (hf : X.env.frame = some X.env.locals) (hN : X.N.Nodup) (hi : X.N[i]? = some n) (hln : X.env.kindOf n = some .local) (hc : Names X x1 c1) (hc2 : Names X x2 c2) (tk : Takes X Wout)
    (hsu : ∀ (a : Addr) (oe : Obj) (cls : Value) (d : Option Addr) (pn : List (Addr × Obj)), Zc cls d oe → (∃ vs, oe.data = .fields vs) → PSs (X.suite a ((a, oe) :: pn)) (s0 :: ss) (ts a cls d))
    (hsu2 : ∀ (a : Addr) (oe : Obj) (cls : Value) (d : Option Addr) (pn : List (Addr × Obj)), Zc cls d oe → (∃ vs, oe.data = .fields vs) → PSs (X.suite a ((a, oe) :: pn)) (s02 :: ss2) (ts2 a cls d))
    {xe : Value → Shared → Prop} {u : Value} {t : Shared} (hx : XE (X.tr (X.pn ++ pins) xe) (wKeep X.K c1 i ts (wKeep X.K c2 i ts2 Wout D) D) u t) :
    wpAny (model X.prog X.w) X.A (noteFrame u X.env) (fun _ t2 => wpAny (model X.prog X.w) X.A (setFlight u none) (fun _ t3 =>
      wpAny (model X.prog X.w) X.A (handleBy u X.env [.ExceptHandler (some (.Name x1 np)) (some n) (s0 :: ss) pos', .ExceptHandler (some (.Name x2 np2)) (some n) (s02 :: ss2) pos2]) (SP X pins D) X.xe t3) X.xe t2) X.xe t := by
  obtain ⟨a, B, sI, _, σ, H, cls, d, rfl, J0, nb, up, sky, na, os, ag, b, hb, yes, no⟩ := hx
  have J : Inv X pins σ H sI := J0.ofTry ok
  have nb' : ∀ b o, sI.heap.get? b = some o → b ∉ frs X.stack → B.get? b = some o := nb
  have fr2 : X.A.frames = some (X.env :: X.outer) := ok.frames.trans (congrArg some hs)
  have sky2 : Sky B (X.env :: X.outer) a (Zc cls d) X.env.locals t.heap := by rw [← hs]; exact sky
  refine Sky.land Zc.steady fr2 hf sky2 fun g fl up2 => ?_
  refine keep_clause ok hs hf hN hi hln hc hsu J nb' (up.trans up2) os ag fl na hb yes fun e => ?_
  obtain ⟨b2, hb2, yes2, no2⟩ := no e
  exact keep_clause ok hs hf hN hi hln hc2 hsu2 J nb' (up.trans up2) os ag fl na hb2 yes2 fun e2 => keep_none hs hf tk J nb' (up.trans up2) os ag fl na (no2 e2)
theorem ps_try_keep2 (hs : X.stack = X.env :: X.outer) (hf : X.env.frame = some X.env.locals) (hN : X.N.Nodup) (hi : X.N[i]? = some n) (hln : X.env.kindOf n = some .local) (hc : Names X x1 c1) (hc2 : Names X x2 c2) (tk : Takes X Wout)
    (hb : ∀ (W : WX) (pn : List (Addr × Obj)) (xe : Value → Shared → Prop), Takes (X.tr pn xe) W → PSs (X.tr pn xe) body (tb W))
    (hsu : ∀ (a : Addr) (oe : Obj) (cls : Value) (d : Option Addr) (pn : List (Addr × Obj)), Zc cls d oe → (∃ vs, oe.data = .fields vs) → PSs (X.suite a ((a, oe) :: pn)) (s0 :: ss) (ts a cls d))
    (hsu2 : ∀ (a : Addr) (oe : Obj) (cls : Value) (d : Option Addr) (pn : List (Addr × Obj)), Zc cls d oe → (∃ vs, oe.data = .fields vs) → PSs (X.suite a ((a, oe) :: pn)) (s02 :: ss2) (ts2 a cls d)) :
    PS X (.Try body [.ExceptHandler (some (.Name x1 np)) (some n) (s0 :: ss) pos', .ExceptHandler (some (.Name x2 np2)) (some n) (s02 :: ss2) pos2] [] [] pos) (fun D σ H => tb (wKeep X.K c1 i ts (wKeep X.K c2 i ts2 Wout D) D) D σ H) := by
  refine ⟨fun pins s σ H D I h => wpAny_Try_except ?_⟩
  refine wpAny_mono ((hb (wKeep X.K c1 i ts (wKeep X.K c2 i ts2 Wout D) D) (X.pn ++ pins) _ fun u t hx => keep_meets2 (np := np) (pos' := pos') (np2 := np2) (pos2 := pos2) (D := D) I.ok hs hf hN hi hln hc hc2 tk hsu hsu2 hx).run [] s σ H D (I.toTry _) h) (fun f s1 q => ?_) fun _ _ z => z
  have ok := I.ok
  cases f with
  | next =>
    obtain ⟨σ1, H1, J1, q1⟩ := q
    exact wpAny_execs_nil ⟨σ1, H1, J1.ofTry ok, q1⟩
  | brk =>
    obtain ⟨σ1, H1, J1, q1⟩ := q
    exact ⟨σ1, H1, J1.ofTry ok, q1⟩
  | cont =>
    obtain ⟨σ1, H1, J1, q1⟩ := q
    exact ⟨σ1, H1, J1.ofTry ok, q1⟩
  | ret u =>
    obtain ⟨v1, σ1, H1, J1, r1, q1⟩ := q
    exact ⟨v1, σ1, H1, J1.ofTry ok, r1, q1⟩
end
/-- the field of an exception that is held -/
def tXfS (K : PySem.W.Frag) (i : Nat) (fld : Str) (a : Addr) (cls : Value) (d : Option Addr) : TE := fun σ H Q => ∃ (dd C : Addr) (fs : List (Str × V)) (v : V), σ[i]? = some (some (.ref a)) ∧ d = some dd ∧ cls = .ref C ∧ XfC K C ∧ PySem.W.findIn K (.ref C) fld = some none ∧ H dd = some (.xd fs) ∧ fs.lookup fld = some v ∧ Q v H
theorem pe_xfS {X : Cx} {n fld : Str} {i : Nat} {p pos : Pos} {a : Addr} {oe : Obj} {cls : Value} {d : Option Addr} {pn : List (Addr × Obj)} (hz : Zc cls d oe) (hd : ∃ vs, oe.data = .fields vs) (hv : PE (X.suite a ((a, oe) :: pn)) (.Name n p) (tVar i))
    (hb : attributeBase (.Name n p) fld (X.suite a ((a, oe) :: pn)).env (eval (.Name n p) (X.suite a ((a, oe) :: pn)).env) = eval (.Name n p) (X.suite a ((a, oe) :: pn)).env := by rfl) :
    PE (X.suite a ((a, oe) :: pn)) (.Attribute (.Name n p) fld pos) (tXfS X.K i fld a cls d) where
  run pn' s σ H Q I h := by
    obtain ⟨dd, C, fs, v, hσ, rfl, rfl, T, own, atD, look, q⟩ := h
    refine attr_of hb (thn (hv.run pn' s σ H (fun x H1 => x = .ref a ∧ H1 = H) I ⟨_, hσ, rfl, rfl⟩) ?_)
    rintro u x ⟨_, G, J, ru, rfl, rfl⟩
    cases ru
    obtain ⟨vs, hd⟩ := hd
    have pin := J.pin (a, oe) (List.mem_append_left _ List.mem_cons_self)
    have obj : ObjOk (X.suite a ((a, oe) :: pn)).prog (X.suite a ((a, oe) :: pn)).w G x.heap dd (.xd fs) := J.hok dd _ atD
    have no : PySem.W.notCls oe = true := by unfold PySem.W.notCls; rw [hd]
    obtain ⟨m, ns, rel⟩ := obj
    obtain ⟨o, get, has⟩ := lookIn_ns ns
    have inst : PySem.W.InstAt x.heap a oe C (some o) := ⟨pin.1, hz.1, no, by rw [hz.2]; exact get⟩
    obtain ⟨w, hw, rw'⟩ := RelO.some_of (o := m fld) (look ▸ rel fld)
    exact HandSPX.exc_get J.kIn inst T.ga T.gg T.exC (PySem.W.findObj_own T.hdC own rfl (has fld ▸ congrArg some hw)) (handed_of rw') ⟨v, G, J.tok _, rw', q⟩
def tryX2 (t1 t2 : List (Str × Bool)) (Cs : List Str) (fld : Str) (ie iy iz : Nat) (C : Str) (gs : List (Str × D)) (env : En) : Option Out :=
  match env[ie]? with
  | none => none
  | some _ => match t1.lookup C with
    | some true => if Cs.contains C then match gs.lookup fld with
      | some d => some (.nx (((env.set ie .un).set iy (.sh (.exn C gs))).set iz (.sh d)))
      | none => none else none
    | some false => tryX t2 ie iy C gs env
    | none => none
def cTry2 (t1 t2 : List (Str × Bool)) (Cs : List Str) (fld : Str) (ie iy iz : Nat) (F : Sm) : Sm := fun env => match F env with
  | some (.x (.exn C gs) env') => tryX2 t1 t2 Cs fld ie iy iz C gs env'
  | some (.x _ _) => none
  | o => o
section
variable {X : Cx} {W : WX} {T1 T2 n y z fld : Str} {ie iy iz : Nat} {body : List Stmt} {F : Sm} {np np2 np3 np4 np5 yp yp2 zp ap pos pos' pos2 pos3 pos4 pos5 : Pos} {t1 t2 : List (Str × Bool)} {Cs : List Str}
theorem psd_try2 (hs : X.stack = X.env :: X.outer) (hf : X.env.frame = some X.env.locals) (hN : X.N.Nodup) (hi : X.N[ie]? = some n) (hln : X.env.kindOf n = some .local) (hy : X.N[iy]? = some y) (hyl : Loc X.env.scope y) (hyf : X.fn y = true ∨ X.env.scope.names.lookup y = some .local)
    (hzz : X.N[iz]? = some z) (hzl : Loc X.env.scope z) (hzf : X.fn z = true ∨ X.env.scope.names.lookup z = some .local)
    (hvn : Vis X.env.scope n) (hne : ie ≠ iy) (hnz : ie ≠ iz) (hyz : iy ≠ iz) (J1 : XcC X.K X.mg T1 t1) (J2 : XcC X.K X.mg T2 t2) (JF : XfT X.K fld Cs) (hg1 : Gl X T1) (hg2 : Gl X T2) (tk : Takes X W)
    (hb : ∀ (W' : WX) (pn : List (Addr × Obj)) (xe : Value → Shared → Prop), Takes (X.tr pn xe) W' → PSsD (X.tr pn xe) W' body F)
    (hd : (n == ("__debug__" : Str)) = false := by decide) (hcd : (n == ("__classdict__" : Str)) = false := by decide) (hdT : (T1 == ("__debug__" : Str)) = false := by decide) (hdT2 : (T2 == ("__debug__" : Str)) = false := by decide)
    (hsw : swapsWith (.Name n np2) (some (.Name y yp)) pos2.line X.env = pure false := by rfl) (hsw2 : swapsWith (.Name n np5) (some (.Name y yp2)) pos5.line X.env = pure false := by rfl)
    (hsz : swapsWith (.Attribute (.Name n np3) fld ap) (some (.Name z zp)) pos3.line X.env = pure false := by rfl)
    (hat : attributeBase (.Name n np3) fld X.env (eval (.Name n np3) X.env) = eval (.Name n np3) X.env := by rfl) :
    PSD X W (.Try body [.ExceptHandler (some (.Name T1 np)) (some n) [.Assign [.Name y yp] (.Name n np2) pos2, .Assign [.Name z zp] (.Attribute (.Name n np3) fld ap) pos3] pos', .ExceptHandler (some (.Name T2 np4)) (some n) [.Assign [.Name y yp2] (.Name n np5) pos5] pos4] [] [] pos) (cTry2 t1 t2 Cs fld ie iy iz F) := by
  refine PS.weak (ps_try_keep2 (c1 := .ref (He.ga X.K T1)) (c2 := .ref (He.ga X.K T2)) (tb := fun W' => rdS X.K W' F) (ts := fun a cls d => tSeq (tAsg (tVar ie) (gName iy)) (tAsg (tXfS X.K ie fld a cls d) (gName iz))) (ts2 := fun _ _ _ => tAsg (tVar ie) (gName iy)) hs hf hN hi hln ⟨hg1, hdT, .inl J1.1⟩ ⟨hg2, hdT2, .inl J2.1⟩ tk (fun W' pn xe tk' => hb W' pn xe tk')
    (fun a oe cls d pn hz hdd => pss_cons (ps_set (X := X.suite a ((a, oe) :: pn)) hN hy hyl (pe_var (X := X.suite a ((a, oe) :: pn)) hi hvn hd hcd) hsw hyf) (pss_one (ps_set (X := X.suite a ((a, oe) :: pn)) hN hzz hzl (pe_xfS hz hdd (pe_var (X := X.suite a ((a, oe) :: pn)) hi hvn hd hcd) hat) hsz hzf)))
    fun a oe cls d pn hz hdd => pss_one (ps_set (X := X.suite a ((a, oe) :: pn)) hN hy hyl (pe_var (X := X.suite a ((a, oe) :: pn)) hi hvn hd hcd) hsw2 hyf)) fun D σ H ⟨H0s, H0, env, Hs, o, Fr, e, q⟩ => ?_
  show rdS X.K (wKeep X.K (.ref (He.ga X.K T1)) ie (fun a cls d => tSeq (tAsg (tVar ie) (gName iy)) (tAsg (tXfS X.K ie fld a cls d) (gName iz))) (wKeep X.K (.ref (He.ga X.K T2)) ie (fun _ _ _ => tAsg (tVar ie) (gName iy)) W D) D) F D σ H
  unfold cTry2 at e
  cases eF : F env with
  | none => rw [eF] at e; cases e
  | some u =>
    rw [eF] at e
    refine ⟨H0s, H0, env, Hs, u, Fr, eF, ?_⟩
    cases u with
    | nx e1 => cases e; exact q
    | bk e1 => cases e; exact q
    | ct e1 => cases e; exact q
    | rt e1 => cases e; exact q
    | x ex e1 =>
      intro cls dd Hs1 σ1 H1 s1 F1 rx
      obtain ⟨C, gs, e3, rfl, rd⟩ := rx
      subst e3
      have e : tryX2 t1 t2 Cs fld ie iy iz C gs e1 = some o := e
      unfold tryX2 at e
      cases el : e1[ie]? with
      | none => rw [el] at e; cases e
      | some sl =>
        rw [el] at e
        have hlt : ie < σ1.length := by
          rw [← F1.len]
          exact (List.getElem?_eq_some_iff.mp el).1
        cases et : t1.lookup C with
        | none => rw [et] at e; cases e
        | some b =>
          rw [et] at e
          have hx := of_decide_eq_true (J1.2 _ (lookup_mem et))
          refine ⟨b, hx, fun hb a na => ?_, fun hb => ?_⟩
          · subst hb
            dsimp only at e
            split at e
            case isFalse => cases e
            case isTrue hcs =>
              split at e
              case h_2 => cases e
              case h_1 dv hl =>
                have e4 := Option.some.inj e
                subst e4
                have j := JF C (List.contains_iff_mem.mp hcs)
                unfold xfcB at j
                simp only [Bool.and_eq_true, decide_eq_true_eq] at j
                obtain ⟨j1, j2⟩ := j
                have n1 : Hs1 a = none := F1.sub.free na
                have F2 := (F1.ext' (Ext.laid (o := Xv (.ref (He.ga X.K C)) dd a) (Ext.refl F1.sub) na)).unset ie
                have F3 := F2.set (.exn upd_same (rd.mono (same_upd n1))) iy
                cases rd with
                | none => cases hl
                | @some da fs _ h5 r6 =>
                  obtain ⟨v, hv, rv⟩ := r6.lookup hl
                  have F4 := F3.set (rv.mono (same_upd n1)) iz
                  refine ⟨.ref a, List.getElem?_set_self hlt, ?_⟩
                  refine ⟨da, _, fs, v, ?_, rfl, rfl, xfB_ok j1, j2, F1.sub _ _ h5, hv, ?_⟩
                  · rw [List.getElem?_set_ne (Ne.symm hne)]
                    exact List.getElem?_set_self hlt
                  · show D.nx ((((σ1.set ie (some (.ref a))).set iy (some (.ref a))).set iz (some v)).set ie none) _
                    rw [List.set_comm _ _ (Ne.symm hnz), List.set_comm _ _ (Ne.symm hne), List.set_set]
                    exact q _ _ _ (s1.trans (same_upd n1)) F4
          · subst hb
            dsimp only at e
            unfold tryX at e
            rw [el] at e
            dsimp only at e
            cases et2 : t2.lookup C with
            | none => rw [et2] at e; cases e
            | some b2 =>
              rw [et2] at e
              have hx2 := of_decide_eq_true (J2.2 _ (lookup_mem et2))
              refine ⟨b2, hx2, fun hb a na => ?_, fun hb => ?_⟩
              · subst hb
                have e4 := Option.some.inj e
                subst e4
                have n1 : Hs1 a = none := F1.sub.free na
                have F2 := (F1.ext' (Ext.laid (o := Xv (.ref (He.ga X.K C)) dd a) (Ext.refl F1.sub) na)).unset ie
                have F3 := F2.set (.exn upd_same (rd.mono (same_upd n1))) iy
                refine ⟨.ref a, List.getElem?_set_self hlt, ?_⟩
                show D.nx (((σ1.set ie (some (.ref a))).set iy (some (.ref a))).set ie none) _
                rw [List.set_comm _ _ (Ne.symm hne), List.set_set]
                exact q _ _ _ (s1.trans (same_upd n1)) F3
              · subst hb
                have e4 := Option.some.inj e
                subst e4
                exact q _ dd Hs1 σ1 H1 s1 F1 ⟨C, gs, rfl, rfl, rd⟩
end
end HD

set_option Elab.async false
set_option linter.all false
set_option maxRecDepth 100000
set_option maxHeartbeats 4000000
/-! HEc: a text times a whole number. -/
namespace HD
open PySem PySem.Spec PyProof.Rows L2
open Classical in
noncomputable def mulSD : D → D → Option Vn
  | .str x, .int n => if MulOk x n then some (.v (.str (Txt.mul x n))) else none
  | _, _ => none
theorem opd_mulS {X : Cx} : OpD X (binaryOp .Mult) mulSD := fun pins s σ H x y v u Q I rx ry ⟨Hs, d, e, w, sb, r1, r2, eg, q⟩ => by
  unfold mulSD at eg
  split at eg
  · rename_i z n
    split at eg
    · rename_i hok
      have e2 := Option.some.inj eg
      subst e2
      cases r1
      cases r2
      obtain ⟨t, rfl⟩ := rx
      obtain ⟨t2, rfl⟩ := ry
      exact SB.mul hok fun t' k => ⟨.str (Txt.mul z n), H, I.tok _, ⟨_, rfl⟩, endV.here sb q (.str _)⟩
    · cases eg
  · cases eg
theorem mulS_at {x : Str} {n : Int} (h : MulOk x n) : mulSD (.str x) (.int n) = some (.v (.str (Txt.mul x n))) := if_pos h
end HD

set_option Elab.async false
set_option linter.all false
set_option maxRecDepth 100000
set_option maxHeartbeats 4000000
/-! HEd: x not in TABLE, of any text. -/
namespace HD
open PySem PySem.Spec PyProof.Rows L2
/-- the module's table has no other keys -/
def tabAll (K : PySem.W.Frag) (x : Str) (tbl : List (Str × Int)) : Bool := match K.lookup (He.ga K x) with
  | some ⟨_, _, .dict es _, _⟩ => es.toList.all fun e => match e.key with
    | .str z _ => (tbl.lookup z).isSome
    | _ => false
  | _ => false
theorem tab_none {K : PySem.W.Frag} {x : Str} {tbl : List (Str × Int)} {es : Array DictEntry} {n : Nat} {z : Str} (h : tabAll K x tbl = true) (hl : K.lookup (He.ga K x) = some ⟨.type "dict", none, .dict es n, #[]⟩) (hz : tbl.lookup z = none) : PySem.W.nsIn K (He.ga K x) z = some none := by
  unfold tabAll at h
  rw [hl] at h
  have h : ∀ e ∈ es.toList, (match e.key with | .str z _ => (tbl.lookup z).isSome | _ => false) = true := List.all_eq_true.1 h
  have h1 : es.toList.find? (·.key.isStr z) = none := by
    refine List.find?_eq_none.2 fun e he q => ?_
    have := h e he
    cases hk : e.key with
    | str y t =>
      rw [hk] at this q
      have q : PySem.Value.isStrOf z (.str y t) = true := by rw [← PySem.W.isStr_of]; exact q
      have e1 : y = z := by
        have q : (y == z) = true := q
        exact eq_of_beq q
      subst e1
      have this : (tbl.lookup y).isSome = true := this
      rw [hz] at this
      cases this
    | _ => rw [hk] at this; cases this
  have h2 : es.toList.any (·.refKey) = false := by
    refine List.any_eq_false.2 fun e he q => ?_
    have := h e he
    unfold DictEntry.refKey at q
    cases hk : e.key with
    | str y t => rw [hk] at q; cases q
    | _ => rw [hk] at this; cases this
  unfold PySem.W.nsIn
  rw [hl]
  dsimp only
  rw [h1]
  dsimp only
  rw [h2]
  rfl
def cNotKf (tbl : List (Str × Int)) (f : Ev) : Ev := fun env => bindR (f env) fun d => match d with
  | .str z => some (.v (.bl (tbl.lookup z).isNone))
  | _ => none
def rNotKf (a : Addr) (tbl : List (Str × Int)) : R2 := fun x y H Q => ∃ z, x = .str z ∧ y = .ref a ∧ Q (.bl (tbl.lookup z).isNone) H
theorem or_notKf {X : Cx} {x : Str} {tbl : List (Str × Int)} (c : Kt X.mg X.K X.w x tbl) (hu : tabAll X.K x tbl = true) : OpR X (compareOp .NotIn) (rNotKf (He.ga X.K x) tbl) := by
  obtain ⟨_, ⟨es, n, hl, hk, low⟩, hv⟩ := c
  refine OpR.weak (op_notIn_kd (es := es) (n := n) ⟨hl, hk, low⟩) fun x1 y H Q h => ?_
  obtain ⟨z, rfl, rfl, q⟩ := h
  cases hz : tbl.lookup z with
  | none =>
    rw [hz] at q
    exact ⟨z, none, rfl, rfl, tab_none hu hl hz, q⟩
  | some i =>
    rw [hz] at q
    obtain ⟨u0, e, _⟩ := hv z i hz
    exact ⟨z, some u0, rfl, rfl, e, q⟩
section
variable {X : Cx} {W : WX} {a : Expr} {f : Ev} {x : Str} {tbl : List (Str × Int)} {p pos : Pos}
theorem ptd_notKf (c : Kt X.mg X.K X.w x tbl) (hu : tabAll X.K x tbl = true) (hg : Gl X x) (ha : PD X W a f) (hm : behindInMarks .NotIn (.Name x p) = false) (hd : (x == ("__debug__" : Str)) = false := by decide) : PTD X W (.Compare a [.NotIn] [.Name x p] pos) (tBl (cNotKf tbl f)) :=
  PT.weak (pt_cmpR (or_notKf c hu) ha (pe_glob (v := .ref (He.ga X.K x)) hg c.1 rfl hd) hm) fun σ H Q ⟨env, Hs, r, F, e, q⟩ => by
    unfold tBl at e
    split at e
    · rename_i e' ef
      have e2 := (Option.some.inj e)
      subst e2
      refine rd_bind (Q := fun x H' => ∃ k, x = V.bl k ∧ Q k H') (r := .x e') F ef q fun v d Hs1 H1 a1 F1 r1 e1 q1 => ?_
      split at e1
      · cases e1
      · cases e1
    · rename_i b' ef
      have e2 := (Option.some.inj e)
      subst e2
      refine rd_bind (Q := fun x H' => ∃ k, x = V.bl k ∧ Q k H') (r := .v (.bl b')) F ef (fun v Hs1 H1 a1 rp => ?_) fun v d Hs1 H1 a1 F1 r1 e1 q1 => ?_
      · cases rp
        exact ⟨_, rfl, q Hs1 H1 a1⟩
      · split at e1
        · rename_i z
          have e3 : Rs.v (.bl (tbl.lookup z).isNone) = Rs.v (.bl b') := Option.some.inj e1
          cases e3
          cases r1
          exact ⟨z, rfl, rfl, endV.here F1.sub q1 (.bl _)⟩
        · cases e1
    · cases e
end
end HD

set_option Elab.async false
set_option linter.all false
set_option maxRecDepth 100000
/-! Ew: how the later functions on data are evaluated -/
namespace HD
open PySem L2
theorem raiseF_e (C fld : Str) (nm : List Nat) (f : Ev) (env : En) : cRaiseF C fld nm f env = evxR (f (mask nm env)) nm env fun u env1 => some (.x (.exn C [(fld, u.d)]) env1) := evx_e _ _ _ _
def xfR (Cs : List Str) (fld : Str) : D → Option Rs
  | .exn C gs => if Cs.contains C then (gs.lookup fld).map .v else none
  | _ => none
theorem xf_e (Cs : List Str) (fld : Str) (f : Ev) (env : En) : cXf Cs fld f env = bindR (f env) (xfR Cs fld) := by
  unfold cXf xfR
  rfl
theorem xfR_at {Cs : List Str} {C fld : Str} (d : D) (h : Cs.contains C = true) : xfR Cs fld (.exn C [(fld, d)]) = some (.v d) := by
  show (if Cs.contains C then (List.lookup fld [(fld, d)]).map Rs.v else none) = _
  rw [if_pos h, List.lookup_cons_self]
  rfl
theorem lrev_e (f : Ev) (env : En) : cLRev f env = bindR (f env) lrevD := rfl
theorem sortSet_e (f : Ev) (env : En) : cSortSet f env = bindR (f env) sortSetD := rfl
theorem sortSetD_2 (a b : Int) : sortSetD (.lst [.int a, .int b]) = some (.n (.lst ((setI [a, b]).map .int))) := rfl
theorem lrevD_l (l : List D) : lrevD (.lst l) = some (.n (.lst l.reverse)) := rfl
/-- a tuple of names returned, its lists one's own -/
def tupS (s : Option Slot) (r : Option (List D)) : Option (List D) := match s with
  | some (.own (.lst l)) => r.map (D.lst l :: ·)
  | some (.sh d) => if d.isLs then none else r.map (d :: ·)
  | _ => none
theorem retT_e (is : List Nat) (env : En) (h : decide (is.Nodup ∧ is.length ≤ 100) = true) : cRetT is env = (tupGo is env).map fun ds => .rt (.n (.tup ds)) := if_pos (of_decide_eq_true h)
theorem tupGo_n (env : En) : tupGo [] env = some [] := rfl
theorem tupGo_c (i : Nat) (is : List Nat) (env : En) : tupGo (i :: is) env = tupS env[i]? (tupGo is env) := by
  rw [tupGo]
  unfold tupS
  generalize env[i]? = s
  cases s with
  | none => rfl
  | some s => cases s with
    | un => rfl
    | sh d => rfl
    | own d => cases d <;> rfl
theorem tupS_o (l ds : List D) : tupS (some (.own (.lst l))) (some ds) = some (.lst l :: ds) := rfl
theorem tupS_sh (d : D) (ds : List D) : tupS (some (.sh d)) (some ds) = if d.isLs then none else some (d :: ds) := rfl
theorem gete_z (s : Slot) (r : En) : (s :: r)[0]? = some s := rfl
theorem gete_s (s : Slot) (r : En) (n : Nat) : (s :: r)[n + 1]? = r[n]? := rfl
theorem isLs_t (l : List D) : D.isLs (.tup l) = false := rfl
theorem isLs_i (i : Int) : D.isLs (.int i) = false := rfl
theorem isLs_b (b : Bool) : D.isLs (.bl b) = false := rfl
theorem isLs_s (z : Str) : D.isLs (.str z) = false := rfl
theorem isLs_dt (q : Q) : D.isLs q.dt = false := rfl
theorem setUN_e (is : List Nat) (nm : List Nat) (f : Ev) (env : En) : cSetUN is nm f env = evxR (f (mask nm env)) nm env (setNR is) := evx_e _ _ _ _
theorem setNR_n (is : List Nat) (ds : List D) (env : En) : setNR is (.n (.tup ds)) env = (setNs is ds env).map .nx := rfl
theorem setNR_v (is : List Nat) (d : D) (env : En) : setNR is (.v d) env = setUR is (.v d) env := rfl
theorem setNR_l (is : List Nat) (l : List D) (env : En) : setNR is (.n (.lst l)) env = setUR is (.n (.lst l)) env := rfl
theorem setNs_n (env : En) : setNs [] [] env = some env := rfl
theorem setNs_c (i : Nat) (is : List Nat) (d : D) (ds : List D) (env : En) : setNs (i :: is) (d :: ds) env = setNs is ds (env.set i (slotT d)) := rfl
theorem slotT_l (l : List D) : slotT (.lst l) = .own (.lst l) := rfl
theorem slotT_t (l : List D) : slotT (.tup l) = .sh (.tup l) := rfl
theorem slotT_i (i : Int) : slotT (.int i) = .sh (.int i) := rfl
theorem slotT_dt (q : Q) : slotT q.dt = .sh q.dt := rfl
theorem flatN_tp (l : List D) : D.flatN (.tup l) = false := rfl
def ret2R (a b : Option Rs) : Option Out := match a, b with
  | some (.v d), some (.n (.lst l)) => if d.isLs then none else some (.rt (.n (.tup [d, .lst l])))
  | _, _ => none
theorem ret2_e (nm : List Nat) (f g : Ev) (env : En) : cRet2 nm f g env = ret2R (f (mask nm env)) (g (mask nm env)) := by
  unfold cRet2 ret2R
  generalize f (mask nm env) = A
  generalize g (mask nm env) = B
  rcases A with _ | A
  · rfl
  · cases A with
    | v d =>
      rcases B with _ | B
      · rfl
      · cases B with
        | n e =>
          cases e <;> first | rfl | (show (if d.isLs = false then _ else _) = (if d.isLs = true then _ else _); cases d.isLs <;> rfl)
        | v e => rfl
        | x e => rfl
    | n d => rfl
    | x d => rfl
theorem ret2R_v (d : D) (l : List D) : ret2R (some (.v d)) (some (.n (.lst l))) = if d.isLs then none else some (.rt (.n (.tup [d, .lst l]))) := rfl
theorem own3_e (i : Nat) (nm : List Nat) (f : Ev) (nm2 : List Nat) (c : Tv) (j : Nat) (env : En) : cOwn3 i nm f nm2 c j env = evxR (f (mask nm env)) nm env (ownR i nm2 c j) := evx_e _ _ _ _
def kO : Option Int → Option Rs
  | some _ => some (.v (.bl false))
  | none => some (.v (.bl true))
def kfR (tbl : List (Str × Int)) : D → Option Rs
  | .str z => kO (tbl.lookup z)
  | _ => none
theorem notKf_e (tbl : List (Str × Int)) (f : Ev) (env : En) : cNotKf tbl f env = bindR (f env) (kfR tbl) := by
  unfold cNotKf
  congr 1
  funext d
  cases d <;> try rfl
  rename_i z
  unfold kfR
  dsimp only
  cases tbl.lookup z <;> rfl
theorem kfR_s (tbl : List (Str × Int)) (z : Str) : kfR tbl (.str z) = kO (tbl.lookup z) := rfl
theorem kO_s (i : Int) : kO (some i) = some (.v (.bl false)) := rfl
theorem kO_n : kO none = some (.v (.bl true)) := rfl
end HD

set_option Elab.async false
set_option linter.all false
set_option maxRecDepth 100000
namespace HD
open PySem L2
abbrev cs_kept : List Str := ["Turn", "HalfTurn", "Mirror"]
abbrev xc_NoText : List (Str × Bool) := [("NoText", true), ("Nought", false)]
abbrev xc_Nought : List (Str × Bool) := [("NoText", false), ("Nought", true)]
abbrev xb_Divided : List (Str × Bool) := [("NoText", false), ("Nought", false)]
abbrev xb_NoLine : List (Str × Bool) := [("NoText", false), ("Nought", false)]
abbrev xb_NoName : List (Str × Bool) := [("NoText", false), ("Nought", false)]
abbrev xb_NoOrder : List (Str × Bool) := [("NoText", false), ("Nought", false)]
abbrev xb_NoPrime : List (Str × Bool) := [("NoText", false), ("Nought", false)]
abbrev xb_NoSide : List (Str × Bool) := [("NoText", false), ("Nought", false)]
abbrev xb_NoText : List (Str × Bool) := [("NoText", true), ("Nought", false)]
abbrev xb_NoTurn : List (Str × Bool) := [("NoText", false), ("Nought", false)]
abbrev xb_Nought : List (Str × Bool) := [("NoText", false), ("Nought", true)]
abbrev xb_SpaceError : List (Str × Bool) := [("NoText", true), ("Nought", true)]
abbrev xb_TooGreat : List (Str × Bool) := [("NoText", false), ("Nought", false)]
abbrev xb_ValueError : List (Str × Bool) := [("NoText", true), ("Nought", true)]
theorem lk_xc_NoText_NoText : List.lookup ("NoText" : Str) xc_NoText = some true := by decide +kernel
theorem lk_xc_Nought_NoText : List.lookup ("NoText" : Str) xc_Nought = some false := by decide +kernel
theorem lk_xb_Divided_NoText : List.lookup ("NoText" : Str) xb_Divided = some false := by decide +kernel
theorem lk_xb_NoLine_NoText : List.lookup ("NoText" : Str) xb_NoLine = some false := by decide +kernel
theorem lk_xb_NoName_NoText : List.lookup ("NoText" : Str) xb_NoName = some false := by decide +kernel
theorem lk_xb_NoOrder_NoText : List.lookup ("NoText" : Str) xb_NoOrder = some false := by decide +kernel
theorem lk_xb_NoPrime_NoText : List.lookup ("NoText" : Str) xb_NoPrime = some false := by decide +kernel
theorem lk_xb_NoSide_NoText : List.lookup ("NoText" : Str) xb_NoSide = some false := by decide +kernel
theorem lk_xb_NoText_NoText : List.lookup ("NoText" : Str) xb_NoText = some true := by decide +kernel
theorem lk_xb_NoTurn_NoText : List.lookup ("NoText" : Str) xb_NoTurn = some false := by decide +kernel
theorem lk_xb_Nought_NoText : List.lookup ("NoText" : Str) xb_Nought = some false := by decide +kernel
theorem lk_xb_SpaceError_NoText : List.lookup ("NoText" : Str) xb_SpaceError = some true := by decide +kernel
theorem lk_xb_TooGreat_NoText : List.lookup ("NoText" : Str) xb_TooGreat = some false := by decide +kernel
theorem lk_xb_ValueError_NoText : List.lookup ("NoText" : Str) xb_ValueError = some true := by decide +kernel
theorem lk_xc_NoText_Nought : List.lookup ("Nought" : Str) xc_NoText = some false := by decide +kernel
theorem lk_xc_Nought_Nought : List.lookup ("Nought" : Str) xc_Nought = some true := by decide +kernel
theorem lk_xb_Divided_Nought : List.lookup ("Nought" : Str) xb_Divided = some false := by decide +kernel
theorem lk_xb_NoLine_Nought : List.lookup ("Nought" : Str) xb_NoLine = some false := by decide +kernel
theorem lk_xb_NoName_Nought : List.lookup ("Nought" : Str) xb_NoName = some false := by decide +kernel
theorem lk_xb_NoOrder_Nought : List.lookup ("Nought" : Str) xb_NoOrder = some false := by decide +kernel
theorem lk_xb_NoPrime_Nought : List.lookup ("Nought" : Str) xb_NoPrime = some false := by decide +kernel
theorem lk_xb_NoSide_Nought : List.lookup ("Nought" : Str) xb_NoSide = some false := by decide +kernel
theorem lk_xb_NoText_Nought : List.lookup ("Nought" : Str) xb_NoText = some false := by decide +kernel
theorem lk_xb_NoTurn_Nought : List.lookup ("Nought" : Str) xb_NoTurn = some false := by decide +kernel
theorem lk_xb_Nought_Nought : List.lookup ("Nought" : Str) xb_Nought = some true := by decide +kernel
theorem lk_xb_SpaceError_Nought : List.lookup ("Nought" : Str) xb_SpaceError = some true := by decide +kernel
theorem lk_xb_TooGreat_Nought : List.lookup ("Nought" : Str) xb_TooGreat = some false := by decide +kernel
theorem lk_xb_ValueError_Nought : List.lookup ("Nought" : Str) xb_ValueError = some true := by decide +kernel
abbrev xf_at : List Str := ["NoText"]
theorem xfc_at_NoText : List.contains xf_at ("NoText" : Str) = true := by decide +kernel
abbrev kt_COUNTS : List (Str × Int) := [("turn", 4), ("half", 3), ("mirror", 3)]
theorem lk_kt_COUNTS_turn : List.lookup ("turn" : Str) kt_COUNTS = some 4 := by decide +kernel
theorem lk_kt_COUNTS_half : List.lookup ("half" : Str) kt_COUNTS = some 3 := by decide +kernel
theorem lk_kt_COUNTS_mirror : List.lookup ("mirror" : Str) kt_COUNTS = some 3 := by decide +kernel
noncomputable def b__law_cell : Sm := (cSeq (cSet 2 [] (cC (.int 0)))
  (cSeq (cIf [] (tBl (cOp gtD (cCB lenC [(vr 0)]) (cC (.int 0))))
  (cSet 2 [] (cOp ixD (vr 0) (cOp modD (vr 1) (cCB lenC [(vr 0)]))))
  cNil)
  (cSeq (cSet 3 [] (cOp modD (cOp mulD (cOp addD (cOp addD (cOp modD (vr 2) (cC (.int 2147483647))) (cOp mulD (cC (.int 7919)) (vr 1))) (cC (.int 1))) (cC (.int 48271))) (cC (.int 2147483647))))
  (cRet [] (cOp addD (cOp mulD (cOp fdivD (vr 2) (cC (.int 2147483647))) (cC (.int 2147483647))) (cOp modD (cOp addD (cOp mulD (vr 3) (cC (.int 69621))) (vr 1)) (cC (.int 2147483647))))))))
noncomputable def f__law_cell : List D → Option Rs := runB 2 4 b__law_cell
noncomputable def e__law_right_0 : Ev := (cOp notInD (vr 2) (cC (.str "0123456789")))
noncomputable def b__law_right : Sm := (cSeq (cSet 1 [] (vr 0))
  (cSeq (cIf [] (tBl (cOp eqD (cSl (vr 0) .no (.at (cC (.int 1)))) (cC (.str "-"))))
  (cSet 1 [] (cSl (vr 0) (.at (cC (.int 1))) .no))
  cNil)
  (cSeq (cIf [1] (tOr' (tNot' (tBl (cChain leD leD (cC (.int 1)) (cCB lenC [(vr 1)]) (cC (.int 40))))) (tVal (cCB anyC [(cLc (iSeq (vr 1)) [2] (.nm 2) tYes' e__law_right_0)])))
  (cRet [] (cC (.bl false)))
  cNil)
  (cRet [1] (cOr (cOp neD (cOp ixD (vr 1) (cC (.int 0))) (cC (.str "0"))) (cOp eqD (vr 0) (cC (.str "0"))))))))
noncomputable def f__law_right : List D → Option Rs := runB 1 3 b__law_right
noncomputable def w__law_due_0 : Sm := (cIf [] (tOr' (tBl (cOp geD (vr 2) (vr 1))) (tNot' (tVal (cCall f__law_right [(cOp ixD (vr 0) (vr 2))]))))
  (cRet [] (cTup [(cLst [(cC (.str "NoText"))]), (vr 2)]))
  cNil)
noncomputable def e__law_due_0 : Ev := (cOp eqD (vr 3) (cC (.str "0")))
noncomputable def b__law_due : Sm := (cSeq (cIf [] (tBl (cOp notInD (cOp ixD (vr 0) (cC (.int 0))) (cTup [(cC (.str "turn")), (cC (.str "half")), (cC (.str "mirror"))])))
  (cRet [] (cTup [(cLst [(cC (.str "NoText"))]), (cC (.int 0))]))
  cNil)
  (cSeq (cSet 1 [] (cOp subD (cC (.int 5)) (cCB intC [(cOp neD (cOp ixD (vr 0) (cC (.int 0))) (cC (.str "turn")))])))
  (cSeq (cFor [] (iRange2 (cC (.int 1)) (cCB lenC [(vr 0)])) (.nm 2) w__law_due_0)
  (cSeq (cIf [] (tBl (cOp ltD (cCB lenC [(vr 0)]) (vr 1)))
  (cRet [] (cTup [(cLst [(cC (.str "NoText"))]), (cCB lenC [(vr 0)])]))
  cNil)
  (cSeq (cIf [] (tVal (cCB allC [(cLc (iSeq (cSl (vr 0) (.at (cC (.int 1))) .no)) [3] (.nm 3) tYes' e__law_due_0)]))
  (cRet [] (cTup [(cLst [(cC (.str "Nought"))]), (cUn negD (cC (.int 1)))]))
  cNil)
  (cRet [] (cC .non)))))))
noncomputable def f__law_due : List D → Option Rs := runB 1 4 b__law_due
noncomputable def b__law_number : Sm := (cSeq (cIf [] (tBl (cOp eqD (cOp modD (vr 1) (cC (.int 3))) (cC (.int 0))))
  (cRet [] (cOp subD (cOp modD (cOp mulD (vr 0) (cOp powD (cC (.int 1000003)) (cC (.int 4)))) (cOp addD (cOp mulD (cC (.int 2)) (cOp powD (cC (.int 10)) (cC (.int 20)))) (cC (.int 1)))) (cOp powD (cC (.int 10)) (cC (.int 20)))))
  cNil)
  (cSeq (cIf [] (tBl (cOp eqD (cOp modD (vr 1) (cC (.int 3))) (cC (.int 1))))
  (cRet [] (cOp subD (cOp modD (vr 0) (cC (.int 61))) (cC (.int 30))))
  cNil)
  (cRet [] (cOp subD (cOp modD (vr 0) (cC (.int 7))) (cC (.int 3))))))
noncomputable def f__law_number : List D → Option Rs := runB 2 2 b__law_number
noncomputable def b__law_odd : Sm := (cSeq (cSet 1 [] (cOp addD (cOp mulSD (cC (.str "1")) (cC (.int 39))) (cSl (cC (.str "23456")) .no (.at (cOp modD (cOp fdivD (vr 0) (cC (.int 32))) (cC (.int 3)))))))
  (cSeq (cSet 2 [] (cLst [(cC (.str "")), (cC (.str "-0")), (cC (.str "+1")), (cC (.str "01")), (cC (.str "-")), (cC (.str "1/2")), (cC (.str "1.0")), (cC (.str "turn")), (cC (.str "half")), (cC (.str "mirror")), (cC (.str "Turn")), (cC (.str "--1")), (cC (.str "1-")), (cC (.str "0")), (cC (.str "-7"))]))
  (cRet [1, 2] (cOp ixD (cOp addD (vr 2) (cLst [(vr 1), (cOp addD (cC (.str "-")) (vr 1)), (cC (.str "00"))])) (cOp modD (vr 0) (cC (.int 18)))))))
noncomputable def f__law_odd : List D → Option Rs := runB 1 3 b__law_odd
noncomputable def b__law_changed : Sm := (cSeq (cSet 2 [] (cOp modD (cOp fdivD (vr 1) (cC (.int 4))) (cCB lenC [(vr 0)])))
  (cSeq (cSet 3 [] (cCall f__law_odd [(cOp fdivD (vr 1) (cC (.int 32)))]))
  (cSeq (cIf [] (tBl (cOp eqD (cOp modD (vr 1) (cC (.int 4))) (cC (.int 0))))
  (cRet [3] (cOp addD (cOp addD (cSl (vr 0) .no (.at (vr 2))) (cLst [(vr 3)])) (cSl (vr 0) (.at (cOp addD (vr 2) (cC (.int 1)))) .no)))
  cNil)
  (cSeq (cIf [] (tAnd' (tBl (cOp eqD (cOp modD (vr 1) (cC (.int 4))) (cC (.int 1)))) (tBl (cOp gtD (cCB lenC [(vr 0)]) (cC (.int 1)))))
  (cRet [] (cOp addD (cSl (vr 0) .no (.at (vr 2))) (cSl (vr 0) (.at (cOp addD (vr 2) (cC (.int 1)))) .no)))
  cNil)
  (cSeq (cIf [] (tBl (cOp eqD (cOp modD (vr 1) (cC (.int 4))) (cC (.int 2))))
  (cRet [3] (cOp addD (cOp addD (cSl (vr 0) .no (.at (vr 2))) (cLst [(vr 3)])) (cSl (vr 0) (.at (vr 2)) .no)))
  cNil)
  (cRet [] (cOp addD (vr 0) (cLst [(cOp ixD (vr 0) (vr 2))]))))))))
noncomputable def f__law_changed : List D → Option Rs := runB 2 4 b__law_changed
noncomputable def w_divisor_of_0 : Sm := (cPar 1 2 [] (vr 2) (cOp modD (vr 1) (vr 2)))
noncomputable def w_divisor_of_1 : Sm := (cWhile [] (tBl (cOp neD (vr 2) (cC (.int 0)))) w_divisor_of_0)
noncomputable def b_divisor_of : Sm := (cSeq (cSet 1 [] (cC (.int 0)))
  (cSeq (cFor [] (iSeq (vr 0)) (.nm 2) w_divisor_of_1)
  (cRet [] (cCB absC [(vr 1)]))))
noncomputable def f_divisor_of : List D → Option Rs := runB 1 3 b_divisor_of
noncomputable def w_as_told_0 : Sm := (cIf [] (tBl (cOp neD (vr 2) (cC (.int 0))))
  (cSet 3 [] (vr 2))
  cNil)
noncomputable def e_as_told_0 : Ev := (cOp fdivD (vr 2) (vr 1))
noncomputable def b_as_told : Sm := (cSeq (cSet 1 [] (cCall f_divisor_of [(vr 0)]))
  (cSeq (cIf [1] (tBl (cOp eqD (vr 1) (cC (.int 0))))
  (cRaise "Nought")
  cNil)
  (cSeq (cFor [] (iRv (vr 0)) (.nm 2) w_as_told_0)
  (cSeq (cIf [3] (tBl (cOp ltD (vr 3) (cC (.int 0))))
  (cSet 1 [1] (cOp subD (cC (.int 0)) (vr 1)))
  cNil)
  (cRet [1] (cCB tupleC [(cLc (iSeq (vr 0)) [2] (.nm 2) tYes' e_as_told_0)]))))))
noncomputable def f_as_told : List D → Option Rs := runB 1 4 b_as_told
noncomputable def b_Mirror___init__ : Ev := (cCall f_as_told [(vr 1)])
noncomputable def f_Mirror___init__ : List D → Option Rs := initB 1 1 b_Mirror___init__
noncomputable def b_Turn___init__ : Ev := (cCall f_as_told [(vr 1)])
noncomputable def f_Turn___init__ : List D → Option Rs := initB 1 1 b_Turn___init__
noncomputable def b_HalfTurn___init__ : Ev := (cCall f_as_told [(vr 1)])
noncomputable def f_HalfTurn___init__ : List D → Option Rs := initB 1 1 b_HalfTurn___init__
noncomputable def e_writes_whole_0 : Ev := (cOp inD (vr 2) (cC (.str "0123456789")))
noncomputable def b_writes_whole : Sm := (cSeq (cSet 1 [] (vr 0))
  (cSeq (cIf [] (tVal (cM1 startsD (vr 0) (cC (.str "-"))))
  (cSet 1 [] (cSl (vr 0) (.at (cC (.int 1))) .no))
  cNil)
  (cSeq (cIf [1] (tOr' (tBl (cOp eqD (cCB lenC [(vr 1)]) (cC (.int 0)))) (tOr' (tBl (cOp gtD (cCB lenC [(vr 1)]) (cC (.int 40)))) (tBl (cOp eqD (vr 0) (cC (.str "-0"))))))
  (cRet [] (cC (.bl false)))
  cNil)
  (cSeq (cIf [1] (tAnd' (tBl (cOp eqD (cOp ixD (vr 1) (cC (.int 0))) (cC (.str "0")))) (tBl (cOp gtD (cCB lenC [(vr 1)]) (cC (.int 1)))))
  (cRet [] (cC (.bl false)))
  cNil)
  (cRet [1] (cCB allC [(cLc (iSeq (vr 1)) [2] (.nm 2) tYes' e_writes_whole_0)]))))))
noncomputable def f_writes_whole : List D → Option Rs := runB 1 3 b_writes_whole
noncomputable def w_deed_read_0 : Sm := (cIf [] (tOr' (tBl (cOp gtD (vr 3) (vr 2))) (tAnd' (tBl (cOp gtD (vr 3) (cC (.int 0)))) (tNot' (tVal (cCall f_writes_whole [(vr 4)])))))
  (cRaiseF "NoText" "at" [] (vr 3))
  cNil)
noncomputable def e_deed_read_0 : Ev := (cCB intC [(vr 4)])
noncomputable def b_deed_read : Sm := (cSeq (cSet 1 [] (cM1 splitD (vr 0) (cC (.str " "))))
  (cSeq (cIf [1] (tBl (cNotKf kt_COUNTS (cOp ixD (vr 1) (cC (.int 0)))))
  (cRaiseF "NoText" "at" [] (cC (.int 0)))
  cNil)
  (cSeq (cSet 2 [1] (cIxK kt_COUNTS (cOp ixD (vr 1) (cC (.int 0)))))
  (cSeq (cFor [1] (iEnA [(vr 1)]) (.tu [3, 4]) w_deed_read_0)
  (cSeq (cIf [1] (tBl (cOp leD (cCB lenC [(vr 1)]) (vr 2)))
  (cRaiseF "NoText" "at" [1] (cCB lenC [(vr 1)]))
  cNil)
  (cSeq (cSet 5 [1] (cCB tupleC [(cLc (iSeq (cSl (vr 1) (.at (cC (.int 1))) .no)) [4] (.nm 4) tYes' e_deed_read_0)]))
  (cSeq (cIf [1] (tBl (cOp eqD (cOp ixD (vr 1) (cC (.int 0))) (cC (.str "turn"))))
  (cRet [] (cMake "Turn" "kept" f_Turn___init__ [(vr 5)]))
  cNil)
  (cSeq (cIf [1] (tBl (cOp eqD (cOp ixD (vr 1) (cC (.int 0))) (cC (.str "half"))))
  (cRet [] (cMake "HalfTurn" "kept" f_HalfTurn___init__ [(vr 5)]))
  cNil)
  (cRet [] (cMake "Mirror" "kept" f_Mirror___init__ [(vr 5)]))))))))))
noncomputable def f_deed_read : List D → Option Rs := runB 1 6 b_deed_read
noncomputable def e__law_kinds_0 : Ev := (cOp ixD (vr 2) (vr 4))
noncomputable def b__law_kinds : Sm := (cSeq (cSet 1 [] (cLst [(cIsX xb_NoSide (vr 0)), (cIsX xb_Nought (vr 0)), (cIsX xb_TooGreat (vr 0))]))
  (cSeq (cSet 1 [1] (cOp addD (vr 1) (cLst [(cIsX xb_NoPrime (vr 0)), (cIsX xb_NoLine (vr 0)), (cIsX xb_NoText (vr 0))])))
  (cSeq (cSet 1 [1] (cOp addD (vr 1) (cLst [(cIsX xb_NoOrder (vr 0)), (cIsX xb_Divided (vr 0))])))
  (cSeq (cSet 1 [1] (cOp addD (vr 1) (cLst [(cIsX xb_NoTurn (vr 0)), (cIsX xb_NoName (vr 0))])))
  (cSeq (cSet 2 [] (cLst [(cC (.str "NoSide")), (cC (.str "Nought")), (cC (.str "TooGreat")), (cC (.str "NoPrime")), (cC (.str "NoLine")), (cC (.str "NoText")), (cC (.str "NoOrder")), (cC (.str "Divided")), (cC (.str "NoTurn")), (cC (.str "NoName"))]))
  (cSeq (cSet 3 [1, 2] (cLc (iRange1 (cC (.int 10))) [4] (.nm 4) (tVal (cOp ixD (vr 1) (vr 4))) e__law_kinds_0))
  (cSeq (cIf [] (tOr' (tNot' (tVal (cIsX xb_SpaceError (vr 0)))) (tNot' (tVal (cIsX xb_ValueError (vr 0)))))
  (cApp 3 [] (cC (.str "other")))
  cNil)
  (cRetV 3))))))))
noncomputable def f__law_kinds : List D → Option Rs := runB 1 5 b__law_kinds
noncomputable def b__law_whole : Sm := (cRet [] (cAnd (cIs isIntD (vr 0)) (cNot (cIs isBoolD (vr 0)))))
noncomputable def f__law_whole : List D → Option Rs := runB 1 1 b__law_whole
noncomputable def b__law_refused : Sm := (cSeq (cSet 1 [] (cC .non))
  (cSeq (cSet 2 [] (cUn negD (cC (.int 1))))
  (cSeq (cTry2 xc_NoText xc_Nought xf_at "at" 3 1 2
  (cExpr [] (cCall f_deed_read [(vr 0)])))
  (cSeq (cIf [1] (tOr' (tBl (cOp isD (vr 1) (cC .non))) (tNot' (tVal (cCall f__law_whole [(vr 2)]))))
  (cRet [] (cC .non))
  cNil)
  (cRet [1] (cTup [(cCall f__law_kinds [(vr 1)]), (vr 2)]))))))
noncomputable def f__law_refused : List D → Option Rs := runB 1 4 b__law_refused
noncomputable def e_words_of_0 : Ev := (cCB strC [(vr 2)])
noncomputable def b_words_of : Sm := (cRet [] (cM1 joinD (cC (.str " ")) (cOp addD (cLst [(vr 0)]) (cLc (iSeq (vr 1)) [2] (.nm 2) tYes' e_words_of_0))))
noncomputable def f_words_of : List D → Option Rs := runB 2 3 b_words_of
noncomputable def b_Turn_told : Sm := (cRet [] (cCall f_words_of [(cC (.str "turn")), (cFld cs_kept "kept" (vr 0))]))
noncomputable def f_Turn_told : List D → Option Rs := runB 1 1 b_Turn_told
noncomputable def b_HalfTurn_told : Sm := (cRet [] (cCall f_words_of [(cC (.str "half")), (cFld cs_kept "kept" (vr 0))]))
noncomputable def f_HalfTurn_told : List D → Option Rs := runB 1 1 b_HalfTurn_told
noncomputable def b_Mirror_told : Sm := (cRet [] (cCall f_words_of [(cC (.str "mirror")), (cFld cs_kept "kept" (vr 0))]))
noncomputable def f_Mirror_told : List D → Option Rs := runB 1 1 b_Mirror_told
noncomputable abbrev tb_told : List (Str × (List D → Option Rs)) := [("Turn", f_Turn_told), ("HalfTurn", f_HalfTurn_told), ("Mirror", f_Mirror_told)]
noncomputable def w_law_0 : Sm := (cSeq (cSet 4 [1] (cCall f__law_number [(cCall f__law_cell [(vr 0), (cOp addD (cC (.int 3)) (vr 3))]), (cOp fdivD (vr 1) (cC (.int 3)))]))
  (cApp 2 [1, 4] (cCB strC [(cOp mulD (vr 4) (cCB intC [(cOp gtD (cOp modD (cOp fdivD (vr 1) (cC (.int 9))) (cC (.int 4))) (cC (.int 0)))]))])))
noncomputable def w_law_1 : Sm := (cSet 2 [2] (cCall f__law_changed [(vr 2), (cCall f__law_cell [(vr 0), (cOp addD (cC (.int 1)) (vr 3))])]))
noncomputable def b_law : Sm := (cSeq (cSet 1 [] (cCall f__law_cell [(vr 0), (cC (.int 0))]))
  (cSeq (cSet 2 [1] (cLst [(cOp ixD (cTup [(cC (.str "turn")), (cC (.str "half")), (cC (.str "mirror"))]) (cOp modD (vr 1) (cC (.int 3))))]))
  (cSeq (cFor [1] (iRange1 (cOp ixD (cTup [(cC (.int 4)), (cC (.int 3)), (cC (.int 3))]) (cOp modD (vr 1) (cC (.int 3))))) (.nm 3) w_law_0)
  (cSeq (cFor [1] (iRange1 (cOp modD (cOp fdivD (vr 1) (cC (.int 36))) (cC (.int 3)))) (.nm 3) w_law_1)
  (cSeq (cSet 5 [2] (cM1 joinD (cC (.str " ")) (vr 2)))
  (cSeq (cSet 6 [5] (cCall f__law_due [(cM1 splitD (vr 5) (cC (.str " ")))]))
  (cSeq (cIf [6] (tBl (cOp isNotD (vr 6) (cC .non)))
  (cRet [5, 6] (cOp eqD (cCall f__law_refused [(vr 5)]) (vr 6)))
  cNil)
  (cRet [2, 5] (cOp eqD (cOp ixD (cM1 splitD (cMeth "told" tb_told (cCall f_deed_read [(vr 5)]) []) (cC (.str " "))) (cC (.int 0))) (cOp ixD (vr 2) (cC (.int 0))))))))))))
noncomputable def f_law : List D → Option Rs := runB 1 7 b_law
end HD

set_option Elab.async false
set_option linter.all false
set_option maxRecDepth 100000
set_option maxHeartbeats 0
namespace HD
open PySem L2
local macro_rules
  | `(tactic| wp_walk using $ts,*) => `(tactic| first | simp (maxSteps := 20000000) (disch := first | assumption | exact Sz.of (by decide +kernel) | decide +kernel | omega) only [$[$ts:term],*, List.drop_succ_cons, List.drop_zero, List.take_succ_cons, List.take_zero, List.drop_nil, List.take_nil, List.map_cons, List.map_nil, List.length_cons, List.length_nil, List.cons_append, List.nil_append, List.append_nil, List.replicate_succ, List.replicate_zero, List.contains_cons, List.contains_nil, List.elem_cons, List.elem_nil, Nat.reduceAdd, Nat.reduceSub, Nat.reduceMul, Nat.reduceBEq, Nat.reduceLeDiff, Nat.reduceLT, Nat.reduceEqDiff, Int.reduceAdd, Int.reduceSub, Int.reduceMul, Int.reduceNeg, Int.reducePow, Int.reduceToNat, Int.reduceMod, Int.reduceDiv, Int.reduceLT, Int.reduceLE, Int.reduceEq, Int.reduceNe, Int.cast_ofNat_Int, Int.reduceNegSucc, ↓reduceIte, ite_self, decide_eq_true_eq, decide_eq_false_iff_not, decide_true, decide_false, decide_not, Bool.and_true, Bool.true_and, Bool.and_false, Bool.false_and, Bool.and_self, Bool.or_true, Bool.true_or, Bool.or_false, Bool.false_or, Bool.not_true, Bool.not_false, Bool.not_not, Bool.not_eq_true', Bool.not_eq_true, Bool.and_eq_true, Bool.or_eq_true, Bool.false_eq_true, Bool.not_eq_eq_eq_not, ne_eq, not_true_eq_false, not_false_eq_true, List.sum_cons, List.sum_nil, List.all_cons, List.all_nil, id_eq, Int.add_zero, List.isEmpty_cons, List.isEmpty_nil, Nat.zero_le, and_self, and_true, true_and, or_self, or_true, true_or, or_false, false_or, and_false, false_and, beq_self_eq_true, List.reverse_cons, List.reverse_nil, mulD_ok, fdivD_ok, modD_ok, addD_i, subD_i, negD_i, ltD_i, leD_i, gtD_i, geD_i, eqD_i, neD_i, eqD_b, neD_b, powD_i, eqv_int, eqv_tup, eqv_lst, eqvs_nil, eqvs_cons, eqvs_nc, eqvs_cn, sh_int, sh_bl, sh_non, sh_tup, sh_lst, shs_nil, shs_cons, eqD_tt, eqD_ll, neD_tt, neD_ll, in_tt, eqD_of, neD_of, vr_z, val_sh, val_own, cC_e, bind_v, bind_n, bind_x, bind_ite, cOp_e, cUn_e, map_some, r_v, r_n, d_v, d_n, evs_n, evs_c, headL_v, headL_n, headL_x, consL_ok, consL_x, bindL_ok, bindL_x, cCall_e, cCB_e, cCall0_e, pure0_v, pure0_n, cTup_e, cLst_e, cOr_e, cAnd_e, cNot_e, cIs_e, obind_some, tru_bl, tru_int, tru_tup, tru_lst, cIte_e, iteR_ok, cChain_e, chR_b, tVal_e, tvR_v, tvR_n, tvR_x, tBl_e, tbR_b, tNot_e, ntR_ok, tAnd_e, anR_ok, anR_t, anR_f, tOr_e, orR_ok, orR_t, orR_f, tYes_e, len_tup, len_lst, len_scr, abs_i, sum_l, all_l, tuple_l, tuple_t, tuple_s, list_l, list_t, list_s, ints_n, ints_c, bls_n, bls_c, isInt_i, isBool_i, isInt_b, isInt_n, isInt_s, isInt_t, isInt_l, isBool_b, isBool_n, isBool_s, isBool_t, isBool_l, isTup_i, isTup_b, isTup_n, isTup_s, isTup_l, isLst_l, isLst_t, isLst_i, isLst_n, isStr_s, isStr_i, isStr_n, isStr_t, isStr_l, isTup_t, any_l, any_t, anyR_b, anyR_i, bls_i, divmod_ok, lenSet_e, lsR_l, atI_lit, atI_2, atI_3, atI_4, set_map, app_sing, ixN_lit, xorD_i, xor_00, xor_01, xor_02, xor_03, xor_10, xor_11, xor_12, xor_13, xor_20, xor_21, xor_22, xor_23, xor_30, xor_31, xor_32, xor_33, ix_tup, ix_lst, ix_scr, get_z, get_s, slice_e, sp_no, sp_at, spR_i, slD_t, slD_l, cutG_map, app_map, j_map, addD_l, addD_t, take_map, drop_map, cutG_take, cutG_drop, fld_e, meth_e, make_e, insR_x, insR_v, insR_n, raise_e, flatX_n, flatX_c, flat_exn, try_e, tryR_nx, tryR_rt, tryR_x, tryR_ite, tryX_e, tryY_t, tryY_f, isX_e, isXR_x, is_x, isNot_x, isC_e, initB_e, flat_ins, runB_e, runB_0, envOf_e, fin_rt, fin_nx, fin_x, fin_ite, seq_e, seq_nx, seq_rt, seq_bk, seq_ct, seq_x, seq_ite, nil_e, mask_e, mask_n, mask_sh, mask_un, mask_own, mask_ite, frz_e, frz_n, frz_sh, frz_un, frz_own, frz_ite, frz_nil, evxR_v0, evxR_n0, evxR_v, evxR_n, evxR_x, evxR_ite, set_e, slot_v, slot_nl, slot_nd, slot_ni, slot_nt, lset_z, lset_s, setT_e, setTR_v, setU_e, setUR_e, tgTu, tgNm, setAll_n, setAll_c, ret_e, retR_v, retR_n, retR_x, retR_ite, retV_e, retVR_sh, retVR_own, retN_e, expr_e, if_e, ifR_ok, ifR_t, ifR_f, par_e, parL_ok, parL_0, for_n, for_c, fset_s, fstep_nx, fstep_ct, fstep_bk, fstep_rt, fstep_x, fstep_ite, lastS_n, lastS_s, mask_lastS, frz_lastS, lv_z, mask_lv, frz_lv, for_e, forR_t, forR_f, bindI_v, bindI_n, iSeq_e, seqD_t, seqD_l, seqD_s, bindLI_ok, iRange1_e, iRange2_e, rg1_i, rg2_i, rgD_z, rgD_s, iEn_e, en1_l, en1_s, enD_n, enD_c, iEnA_e, en2_l, en2_s, en2_t, iZp_e, iZq_e, zq2_e, sqD_t, sqD_l, sqD_s, zp2_l, zp2_t, prD_c, prD_n, prD_n', iRv_e, rv1_t, rv1_l, lc_e, lcR_ok, wipe_n, wipe_c, lc_n, lc_c, lset_some, ltest_t, ltest_ok, lcons_v, lcons_n, on_e, onR_l, isL_e, isLR_l, rev_e, clr_e, app_e, ext_e, extR_l, setIx_e, setIR_i, newD_e, look_i, look_s, in_di, in_ds, ni_di, ni_ds, ix_di, ix_ds, flatN_d0, flat_dic, store_e, stoR_some, stoR_none, isLR_d, isDk_e, isDR_d, putIx_e, putR_i, putR_s, onDic_e, onDR_d, ins_e, insAt_i, popIx_e, popAt_i, ltA_i, iRng_e, sortR_e, sortR_i, sortA_i, j_snx, j_srt, j_sv, j_sn, j_sok, j_slst, j_srok, j_sbool, j_rv, j_rn, j_vv, j_vn, j_ok, j_nx, j_rt, j_sh, j_own, j_int, j_bl, j_str, j_tup, j_lst, j_cons, j_rok, flat_int, flat_bl, flat_non, flat_str, flat_tup, flat_lst, flat_scr, flats_n, flats_c, flatN_l, m1_e, m1R_s, ixK_e, notK_e, kR_s, str_ok, addD_s, join4, joinL_mem, sok_join, neD_str, eqD_str, mkL, mkR, j_side, eq_side, ne_side, ni_side, in_side, flat_side, beq_tt, flat_dt, sh_dt, eqv_dt, eqD_dt, neD_dt, eqvs_dt, shs_dt, flats_dt, flats_ints, shs_ints, eqvs_ints, tru_dt, j_dt, isNot_dt, isNot_nn, is_dt, is_nn, isNot_i, is_i, isNot_t, is_t, isNot_l, is_l, seqD_dt, len_dt, isTup_dt, ix_dt, en2_dt, zp2_dt, sqD_dt, tuple_dt, list_dt, tgDt, flat_tp, flat_mtp, sh_tp, sh_mtp, eqv_tp, eqv_mtp, seqD_tp, seqD_mtp, sqD_tp, sqD_ls, sqD_mtp, sqD_mls, len_tp, len_mtp, isTup_tp, isTup_mtp, ix_tp, ix_mtp, list_tp, tuple_tp, tgTp, seqD_ls, seqD_mls, ix_ls, ix_mls, sum_ls, tuple_ls, flat_ls, flat_mls, isLR_ls, onR_ls, flatN_ls, eqD_tp, neD_tp, eqD_mtp, neD_mtp, isNot_tp, is_tp, eqD_tab, neD_tab, eq_tabQ, ne_tabQ, flat_tab, flat_tabQ, flat_lowV, flat_plQ, isNot_bb, is_bb, raiseF_e, xf_e, lrev_e, sortSet_e, sortSetD_2, lrevD_l, retT_e, tupGo_n, tupGo_c, tupS_o, tupS_sh, gete_z, gete_s, isLs_t, isLs_i, isLs_b, isLs_s, isLs_dt, setUN_e, setNR_n, setNR_v, setNR_l, setNs_n, setNs_c, slotT_l, slotT_t, slotT_i, slotT_dt, flatN_tp, ret2_e, ret2R_v, own3_e, notKf_e, kfR_s, kO_s, kO_n, vr_s, tru_non] | trace "EV FAILED")
theorem raw_at (s : Scr) (k : Int) (h : 0 < s.ns.length) : atI (s.ns.map D.int) (k % (s.ns.length : Int)) = some (.int (s.raw k)) := by
  have hp : (0 : Int) < s.ns.length := by omega
  have h1 := Int.emod_nonneg k (b := (s.ns.length : Int)) (by omega)
  have h2 := Int.emod_lt_of_pos k hp
  rw [atI_pos _ _ h1]
  have h3 : (k % (s.ns.length : Int)).toNat < s.ns.length := by omega
  rw [List.getElem?_map, Scr.raw, if_pos h, List.getElem?_eq_getElem h3]
  rfl
theorem cell_e (s : Scr) {k : Int} {n : Nat} [hs : SzC k n] (h : n ≤ 64) : f__law_cell [.scr (s.ns.map .int), .int k] = some (.v (.int (cell s k))) := by
  haveI : SzC k 64 := hs.mono h
  unfold f__law_cell b__law_cell
  by_cases h0 : 0 < s.ns.length
  · haveI : Ps (s.ns.length : Int) := ⟨by omega⟩
    have h1 : (0 : Int) < (s.ns.length : Int) := by omega
    wp_walk using List.length_map, raw_at s k h0, h1, cell
  · have h1 : ¬ (0 : Int) < (s.ns.length : Int) := by omega
    have h2 : s.raw k = 0 := by unfold Scr.raw; rw [if_neg h0]
    wp_walk using List.length_map, h1, cell, h2
theorem whole_e (i : Int) : f__law_whole [.int i] = some (.v (.bl true)) := by
  unfold f__law_whole b__law_whole
  wp_walk using vr_z
theorem div_whl : ∀ (k : Nat) (d : D) (f o : Int), o.natAbs < k → ∃ g : Int, cWhile [] (tBl (cOp neD (vr 2) (cC (.int 0)))) w_divisor_of_0 [.sh d, .sh (.int f), .sh (.int o)] = some (.nx [.sh d, .sh (.int g), .sh (.int 0)]) ∧ g.natAbs = Nat.gcd f.natAbs o.natAbs := by
  intro k
  induction k with
  | zero => intro d f o h; omega
  | succ k ih =>
    intro d f o h
    by_cases h0 : o = 0
    · subst h0
      refine ⟨f, cWhile_end ?_, (Nat.gcd_zero_right _).symm⟩
      wp_walk using vr_z
    · obtain ⟨g, h1, h2⟩ := ih d o (f.fmod o) (by have := fmod_lt (f := f) h0; omega)
      refine ⟨g, cWhile_turn (e2 := [.sh d, .sh (.int o), .sh (.int (f.fmod o))]) ?_ ?_ h1, h2.trans (fmod_gcd f o)⟩
      · wp_walk using h0
      · unfold w_divisor_of_0
        wp_walk using modD_n h0
theorem div_loop : ∀ (l : List Int) (d : D) (f : Int) (x : Slot), ∃ (g : Int) (y : Slot), forGo (.nm 2) w_divisor_of_1 [.sh d, .sh (.int f), x] (l.map .int) = some (.nx [.sh d, .sh (.int g), y]) ∧ g.natAbs = gcdN l f.natAbs := by
  intro l
  induction l with
  | nil => intro d f x; exact ⟨f, x, rfl, rfl⟩
  | cons o l ih =>
    intro d f x
    obtain ⟨g1, a1, a2⟩ := div_whl (o.natAbs + 1) d f o (by omega)
    obtain ⟨g, y, b1, b2⟩ := ih d g1 (.sh (.int 0))
    refine ⟨g, y, ?_, by rw [b2, a2]; rfl⟩
    rw [List.map_cons, for_c, tgNm, fset_s, lset_s, lset_s, lset_z]
    have e : w_divisor_of_1 [.sh d, .sh (.int f), .sh (.int o)] = some (.nx [.sh d, .sh (.int g1), .sh (.int 0)]) := a1
    rw [e, fstep_nx]
    exact b1
theorem divisor_e (l : List Int) : f_divisor_of [.lst (l.map .int)] = some (.v (.int (gcdL l))) := by
  obtain ⟨g, y, h1, h2⟩ := div_loop l (.lst (l.map .int)) 0 .un
  have e : (if g < 0 then -g else g) = gcdL l := by
    unfold gcdL
    have h3 : g.natAbs = gcdN l 0 := h2
    rw [← h3]
    split <;> omega
  unfold f_divisor_of b_divisor_of
  wp_walk using h1, e
theorem divisor_t (l : List Int) : f_divisor_of [.tup (l.map .int)] = some (.v (.int (gcdL l))) := by
  obtain ⟨g, y, h1, h2⟩ := div_loop l (.tup (l.map .int)) 0 .un
  have e : (if g < 0 then -g else g) = gcdL l := by
    unfold gcdL
    have h3 : g.natAbs = gcdN l 0 := h2
    rw [← h3]
    split <;> omega
  unfold f_divisor_of b_divisor_of
  wp_walk using h1, e
def numL (c k : Int) : Int := if k % 3 = 0 then c * 1000012000054000108000081 % 200000000000000000001 - 100000000000000000000 else if k % 3 = 1 then c % 61 - 30 else c % 7 - 3
instance {c k : Int} : SzC (numL c k) 70 := by
  unfold numL
  split
  · exact ⟨by omega⟩
  · split
    · exact ⟨by omega⟩
    · exact ⟨by omega⟩
theorem number_e {c k : Int} {n : Nat} [h : SzC c n] (hn : n ≤ 10000000) : f__law_number [.int c, .int k] = some (.v (.int (numL c k))) := by
  haveI := h.mono hn
  unfold f__law_number b__law_number
  wp_walk using numL
theorem gQ_e (q : Q) : f_divisor_of [q.dt] = some (.v (.int (gQ q))) := divisor_t q.l
theorem told_loop (q : Q) (e0 e1 : D) : forGo (.nm 2) w_as_told_0 [.sh e0, .sh e1, .un, .un] [.int q.d, .int q.c, .int q.b, .int q.a] = some (.nx [.sh e0, .sh e1, .sh (.int q.a), .sh (.int (fstQ q))]) ∨ q = ⟨0, 0, 0, 0⟩ := by
  unfold w_as_told_0 fstQ
  by_cases ha : q.a = 0 <;> by_cases hb : q.b = 0 <;> by_cases hc : q.c = 0 <;> by_cases hd : q.d = 0
  all_goals first
    | exact .inr (Q.ext' ha hb hc hd)
    | (refine .inl ?_; wp_walk using ha, hb, hc, hd)
theorem rv1_dt (q : Q) : rv1 q.dt = some (.ok [.int q.d, .int q.c, .int q.b, .int q.a] true) := rfl
theorem as_told_e {q : Q} {n : Nat} [h : QC q n] (hn : n ≤ 8000) (h0 : ¬ q = ⟨0, 0, 0, 0⟩) : f_as_told [q.dt] = some (.v (toldQ q).dt) := by
  haveI := h.mono hn
  haveI : SzC (byQ q) 8000 := by_sz h0
  have hb := by_ne h0
  have hg : ¬ gQ q = 0 := by have := gQ_pos h0; omega
  have hby : (if fstQ q < 0 then 0 - gQ q else gQ q) = byQ q := rfl
  have f1 := fdivD_ex (x := q.a) (n := 8000) hb (by_dvd q (by simp [Q.l])) (by decide)
  have f2 := fdivD_ex (x := q.b) (n := 8000) hb (by_dvd q (by simp [Q.l])) (by decide)
  have f3 := fdivD_ex (x := q.c) (n := 8000) hb (by_dvd q (by simp [Q.l])) (by decide)
  have f4 := fdivD_ex (x := q.d) (n := 8000) hb (by_dvd q (by simp [Q.l])) (by decide)
  have hl := told_loop q q.dt (.int (gQ q))
  have hl := hl.resolve_right h0
  have e : (toldQ q).dt = .tup [.int (q.a / byQ q), .int (q.b / byQ q), .int (q.c / byQ q), .int (q.d / byQ q)] := rfl
  rw [e]
  unfold f_as_told b_as_told e_as_told_0
  wp_walk using gQ_e, hg, rv1_dt, hl, hby, f1, f2, f3, f4
def trn (q : Q) : D := .ins "Turn" [("kept", (toldQ q).dt)]
theorem turn_init {q : Q} {n : Nat} [h : QC q n] (hn : n ≤ 8000) (h0 : ¬ q = ⟨0, 0, 0, 0⟩) : f_Turn___init__ [q.dt] = some (.v (toldQ q).dt) := by
  have e := as_told_e hn h0
  unfold f_Turn___init__ b_Turn___init__
  wp_walk using e
theorem ins_trn {q : Q} {n : Nat} [h : QC q n] (hn : n ≤ 8000) (h0 : ¬ q = ⟨0, 0, 0, 0⟩) : insR "Turn" "kept" (f_Turn___init__ [q.dt]) = some (.v (trn q)) := by
  rw [turn_init hn h0]
  rfl
theorem kept_trn (q : Q) : fldD cs_kept "kept" (trn q) = some (.v (toldQ q).dt) := rfl
theorem flat_trn (q : Q) : D.flat (trn q) = false := flat_ins _ _
/-! half turns and mirrors -/
def axQ (v : V3) : Q := ⟨0, v.x, v.y, v.z⟩
def toldV (v : V3) : V3 := ⟨(toldQ (axQ v)).b, (toldQ (axQ v)).c, (toldQ (axQ v)).d⟩
instance ax_qc {v : V3} {n : Nat} [h : VC v n] : QC (axQ v) n := ⟨⟨Nat.pow_pos (by decide)⟩, h.x, h.y, h.z⟩
instance toldV_vc {v : V3} {n : Nat} [h : VC v n] : VC (toldV v) n := by
  have e : QC (toldQ (axQ v)) n := inferInstance
  exact ⟨e.b, e.c, e.d⟩
theorem ax_ne {v : V3} (h : ¬ v = ⟨0, 0, 0⟩) : ¬ axQ v = ⟨0, 0, 0, 0⟩ := fun e => h (by
  have e1 := congrArg Q.b e
  have e2 := congrArg Q.c e
  have e3 := congrArg Q.d e
  exact V3.ext' e1 e2 e3)
theorem ax_toldV (v : V3) : axQ (toldV v) = toldQ (axQ v) := by
  apply Q.ext'
  · show 0 = 0 / byQ (axQ v)
    exact (Int.zero_ediv _).symm
  · rfl
  · rfl
  · rfl
theorem told3_loop (v : V3) (e0 e1 : D) : forGo (.nm 2) w_as_told_0 [.sh e0, .sh e1, .un, .un] [.int v.z, .int v.y, .int v.x] = some (.nx [.sh e0, .sh e1, .sh (.int v.x), .sh (.int (fstQ (axQ v)))]) ∨ v = ⟨0, 0, 0⟩ := by
  unfold w_as_told_0 fstQ axQ
  by_cases ha : v.x = 0 <;> by_cases hb : v.y = 0 <;> by_cases hc : v.z = 0
  all_goals first
    | exact .inr (V3.ext' ha hb hc)
    | (refine .inl ?_; wp_walk using ha, hb, hc)
theorem rv1_tp (v : V3) : rv1 v.tp = some (.ok [.int v.z, .int v.y, .int v.x] true) := rfl
theorem gcd3 (v : V3) : gcdL [v.x, v.y, v.z] = gQ (axQ v) := by
  unfold gQ gcdL gcdN axQ Q.l
  simp only [List.foldl_cons, List.foldl_nil, Int.natAbs_zero, Nat.gcd_zero_left]
theorem as_told3_e {v : V3} {n : Nat} [h : VC v n] (hn : n ≤ 8000) (h0 : ¬ v = ⟨0, 0, 0⟩) : f_as_told [v.tp] = some (.v (toldV v).tp) := by
  haveI := h.mono hn
  have q0 := ax_ne h0
  haveI : SzC (byQ (axQ v)) 8000 := by_sz q0
  have hb := by_ne q0
  have hg : ¬ gQ (axQ v) = 0 := by have := gQ_pos q0; omega
  have hby : (if fstQ (axQ v) < 0 then 0 - gQ (axQ v) else gQ (axQ v)) = byQ (axQ v) := rfl
  have f2 := fdivD_ex (x := v.x) (n := 8000) hb (by_dvd (axQ v) (by simp [Q.l, axQ])) (by decide)
  have f3 := fdivD_ex (x := v.y) (n := 8000) hb (by_dvd (axQ v) (by simp [Q.l, axQ])) (by decide)
  have f4 := fdivD_ex (x := v.z) (n := 8000) hb (by_dvd (axQ v) (by simp [Q.l, axQ])) (by decide)
  have dv : f_divisor_of [v.tp] = some (.v (.int (gQ (axQ v)))) := by rw [← gcd3]; exact divisor_t [v.x, v.y, v.z]
  have hl := (told3_loop v v.tp (.int (gQ (axQ v)))).resolve_right h0
  have e : (toldV v).tp = .tup [.int (v.x / byQ (axQ v)), .int (v.y / byQ (axQ v)), .int (v.z / byQ (axQ v))] := rfl
  rw [e]
  unfold f_as_told b_as_told e_as_told_0
  wp_walk using dv, hg, rv1_tp, hl, hby, f2, f3, f4
def hal (v : V3) : D := .ins "HalfTurn" [("kept", (toldV v).tp)]
def mir (v : V3) : D := .ins "Mirror" [("kept", (toldV v).tp)]
theorem ins_hal {v : V3} {n : Nat} [h : VC v n] (hn : n ≤ 8000) (h0 : ¬ v = ⟨0, 0, 0⟩) : insR "HalfTurn" "kept" (f_HalfTurn___init__ [v.tp]) = some (.v (hal v)) := by
  have e := as_told3_e hn h0
  have e2 : f_HalfTurn___init__ [v.tp] = some (.v (toldV v).tp) := by
    unfold f_HalfTurn___init__ b_HalfTurn___init__
    wp_walk using e
  rw [e2]
  rfl
theorem ins_mir {v : V3} {n : Nat} [h : VC v n] (hn : n ≤ 8000) (h0 : ¬ v = ⟨0, 0, 0⟩) : insR "Mirror" "kept" (f_Mirror___init__ [v.tp]) = some (.v (mir v)) := by
  have e := as_told3_e hn h0
  have e2 : f_Mirror___init__ [v.tp] = some (.v (toldV v).tp) := by
    unfold f_Mirror___init__ b_Mirror___init__
    wp_walk using e
  rw [e2]
  rfl
theorem flat_hal (v : V3) : D.flat (hal v) = false := flat_ins _ _
theorem flat_mir (v : V3) : D.flat (mir v) = false := flat_ins _ _
theorem toldV_toldV {v : V3} (h : ¬ v = ⟨0, 0, 0⟩) : toldV (toldV v) = toldV v := by
  have e := told_told (ax_ne h)
  rw [← ax_toldV, ← ax_toldV] at e
  have e1 := congrArg Q.b e
  have e2 := congrArg Q.c e
  have e3 := congrArg Q.d e
  exact V3.ext' e1 e2 e3
theorem ax_sm (k : Int) (v : V3) : axQ (v.sm k) = (axQ v).smul k := by apply Q.ext' <;> simp only [axQ, V3.sm, Q.smul, Int.mul_zero]
theorem toldV_sm {k : Int} (hk : k ≠ 0) {v : V3} (h : ¬ v = ⟨0, 0, 0⟩) : toldV (v.sm k) = toldV v := by
  unfold toldV
  rw [ax_sm, told_smul hk (ax_ne h)]
theorem sm_ne {k : Int} (hk : k ≠ 0) {v : V3} (h : ¬ v = ⟨0, 0, 0⟩) : ¬ v.sm k = ⟨0, 0, 0⟩ := fun e => by
  have z : ∀ {x : Int}, k * x = 0 → x = 0 := fun h => (Int.mul_eq_zero.1 h).resolve_left hk
  exact h (V3.ext' (z (congrArg V3.x e)) (z (congrArg V3.y e)) (z (congrArg V3.z e)))
theorem ax_dec (v w : V3) : decide (toldQ (axQ v) = toldQ (axQ w)) = decide (toldV v = toldV w) := by
  refine decide_eq_decide.2 ⟨fun e => ?_, fun e => ?_⟩
  · rw [← ax_toldV, ← ax_toldV] at e
    have e1 := congrArg Q.b e
    have e2 := congrArg Q.c e
    have e3 := congrArg Q.d e
    exact V3.ext' e1 e2 e3
  · rw [← ax_toldV, ← ax_toldV, e]
theorem starts_c (c : Nat) (l : List Nat) : Txt.startswith (SX.S (c :: l)) (SX.S [45]) = Txt.startswith (SX.S [c]) (SX.S [45]) := by
  have e : SX.S (c :: l) = SX.S [c] ++ SX.S l := by rw [SX.S_cat]; rfl
  rw [e]
  exact PySem.W.KAf.starts_left (by rw [len_S, len_S]; exact Nat.le_refl _)
theorem starts_dig {c : Nat} (h : 48 ≤ c ∧ c ≤ 57) (l : List Nat) : startsD (SX.S (c :: l)) (.str "-") = some (.v (.bl false)) := by
  show some (Vn.v (.bl (Txt.startswith (SX.S (c :: l)) (SX.S [45])))) = _
  rw [starts_c]
  rcases (show c = 48 ∨ c = 49 ∨ c = 50 ∨ c = 51 ∨ c = 52 ∨ c = 53 ∨ c = 54 ∨ c = 55 ∨ c = 56 ∨ c = 57 by omega) with rfl | rfl | rfl | rfl | rfl | rfl | rfl | rfl | rfl | rfl <;> kernel_rfl
theorem starts_min (l : List Nat) : startsD (SX.S (45 :: l)) (.str "-") = some (.v (.bl true)) := by
  show some (Vn.v (.bl (Txt.startswith (SX.S (45 :: l)) (SX.S [45])))) = _
  rw [starts_c]
  kernel_rfl
theorem lit_zero : D.str "0" = tx [48] := rfl
theorem lit_mz : D.str "-0" = tx [45, 48] := rfl
theorem small_S {c : Nat} (h : 48 ≤ c ∧ c ≤ 57) : ∀ d ∈ [c], d < 1114112 := fun d hd => by
  rw [List.mem_singleton.1 hd]; omega
theorem dec_small (i : Int) : ∀ d ∈ decL i, d < 1114112 := fun d hd => by
  have := dec_sign hd
  omega
theorem figs_all (a b : Slot) (l : List Nat) (h : ∀ d ∈ l, 48 ≤ d ∧ d ≤ 57) : lcGo (.nm 2) tYes' e_writes_whole_0 [a, b, .un] (l.map fun c => tx [c]) = some (l.map fun _ => D.bl true) :=
  lc_map l fun c hc => ⟨[a, b, .sh (tx [c])], rfl, .inl (by
    have e := dig_in' (h c hc)
    unfold e_writes_whole_0
    cases a <;> cases b <;> wp_walk using e)⟩
theorem all_true : ∀ l : List Nat, allC [.lst (l.map fun _ => D.bl true)] = some (.v (.bl true)) := fun l => by
  have e : ∀ l : List Nat, D.bls (l.map fun _ => D.bl true) = some (l.map fun _ => true) := fun l => by
    induction l with
    | nil => rfl
    | cons c l ih =>
      show (D.bls (l.map fun _ => D.bl true)).map (true :: ·) = _
      rw [ih]
      rfl
  have k : (l.map fun _ => true).all id = true := by
    induction l with
    | nil => rfl
    | cons c l ih =>
      rw [List.map_cons, List.all_cons, ih]
      rfl
  show (D.bls (l.map fun _ => D.bl true)).map (fun bs => Vn.v (.bl (bs.all id))) = _
  rw [e, Option.map_some, k]
theorem writes_e {i : Int} (h : (TL.numL i.natAbs).length ≤ 40) : f_writes_whole [tx (decL i)] = some (.v (.bl true)) := by
  obtain ⟨c, l, e, hc⟩ := num_cons i.natAbs
  have dg : ∀ d ∈ c :: l, 48 ≤ d ∧ d ≤ 57 := fun d hd => num_dig (by rw [e]; exact hd)
  rw [e] at h
  have dc := dg c (List.mem_cons_self ..)
  have hl : (c :: l).length ≤ 40 := h
  have n1 := lenC_S (l := c :: l) (by omega)
  have n2 : ¬ (((c :: l).length : Nat) : Int) = 0 := by simp only [List.length_cons]; omega
  have n3 : ¬ 40 < (((c :: l).length : Nat) : Int) := by omega
  have x0 := ix_S (c := c) (l := l) (by omega)
  have z48 : ∀ d ∈ [48], d < 1114112 := by decide
  have zmz : ∀ d ∈ [45, 48], d < 1114112 := by decide
  have q0 : eqD (tx [c]) (tx [48]) = some (.v (.bl (decide ([c] = [48])))) := eqD_S (small_S dc) z48
  have n4 : c = 48 → ¬ 1 < (((c :: l).length : Nat) : Int) := fun z => by
    have := hc z
    rw [this, num_zero] at e
    rw [← e]
    decide
  have sq := seqD_S (c :: l)
  have aw := all_true (c :: l)
  have hL : ((c :: l).map fun c => tx [c]).length ≤ 16777216 := by rw [List.length_map]; omega
  have w0 : eqD (tx (decL i)) (tx [45, 48]) = some (.v (.bl false)) := by
    rw [eqD_S (dec_small i) zmz, decide_eq_false]
    intro hh
    unfold decL at hh
    rw [e] at hh
    split at hh
    · have h2 := List.cons.inj hh
      have h3 := List.cons.inj h2.2
      have := hc h3.1
      omega
    · have := (List.cons.inj hh).1
      omega
  unfold f_writes_whole b_writes_whole
  by_cases h0 : i < 0
  · have d : decL i = 45 :: c :: l := by unfold decL; rw [if_pos h0, e]
    rw [d] at w0 ⊢
    have st := starts_min (c :: l)
    have s2 : slD (tx (45 :: c :: l)) (some 1) none = some (.v (tx (c :: l))) := by
      rw [slD_S (by simp only [List.length_cons] at *; omega), cutG_drop _ _ (by decide)]
      rfl
    have q0' : eqD (tx [c]) (tx [48]) = some (.v (.bl false)) := by
      rw [q0, decide_eq_false]
      intro hh
      have := hc (List.cons.inj hh).1
      omega
    have fa := figs_all (.sh (tx (45 :: c :: l))) (.sh (tx (c :: l))) (c :: l) dg
    have st' : m1R startsD (some (.v (.str "-"))) (tx (45 :: c :: l)) = some (.v (.bl true)) := by
      rw [m1R_s]
      show (startsD (SX.S (45 :: c :: l)) (.str "-")).map Vn.r = _
      rw [st]
      rfl
    generalize hw : tx (45 :: c :: l) = w at *
    generalize hf : tx (c :: l) = f at *
    generalize (c :: l).map (fun c => tx [c]) = L at *
    generalize (c :: l).map (fun _ => D.bl true) = B at *
    generalize ((c :: l).length : Int) = k at *
    wp_walk using st', s2, n1, n2, n3, lit_mz, w0, x0, lit_zero, q0', sq, fa, aw, hL
  · have d : decL i = c :: l := by unfold decL; rw [if_neg h0, e]
    rw [d] at w0 ⊢
    have st := starts_dig dc l
    have fa := figs_all (.sh (tx (c :: l))) (.sh (tx (c :: l))) (c :: l) dg
    have st' : m1R startsD (some (.v (.str "-"))) (tx (c :: l)) = some (.v (.bl false)) := by
      rw [m1R_s]
      show (startsD (SX.S (c :: l)) (.str "-")).map Vn.r = _
      rw [st]
      rfl
    by_cases h48 : c = 48
    · have q0' : eqD (tx [c]) (tx [48]) = some (.v (.bl true)) := by rw [q0, h48]; rfl
      have n5 := n4 h48
      generalize hf : tx (c :: l) = f at *
      generalize (c :: l).map (fun c => tx [c]) = L at *
      generalize (c :: l).map (fun _ => D.bl true) = B at *
      generalize ((c :: l).length : Int) = k at *
      wp_walk using st', n1, n2, n3, n5, lit_mz, w0, x0, lit_zero, q0', sq, fa, aw, hL
    · have q0' : eqD (tx [c]) (tx [48]) = some (.v (.bl false)) := by
        rw [q0, decide_eq_false]
        intro hh
        exact h48 (List.cons.inj hh).1
      generalize hf : tx (c :: l) = f at *
      generalize (c :: l).map (fun c => tx [c]) = L at *
      generalize (c :: l).map (fun _ => D.bl true) = B at *
      generalize ((c :: l).length : Int) = k at *
      wp_walk using st', n1, n2, n3, lit_mz, w0, x0, lit_zero, q0', sq, fa, aw, hL
/-! words -/
theorem strs_tx : ∀ l : List (List Nat), D.strs (l.map tx) = some (l.map SX.S)
  | [] => rfl
  | a :: l => by
    show (D.strs (l.map tx)).map (SX.S a :: ·) = _
    rw [strs_tx l]
    rfl
theorem join_tx {l : List (List Nat)} {k : Nat} (h : ∀ p ∈ l, p.length ≤ k) (hz : l.length * k + l.length ≤ 5000) : joinD (SX.S [32]) (.lst (l.map tx)) = some (.v (.str (Txt.join (SX.S [32]) (l.map SX.S)))) := by
  have s : ∀ l : List (List Nat), (∀ p ∈ l, p.length ≤ k) → ((l.map SX.S).map (·.length)).sum ≤ l.length * k := fun l => by
    induction l with
    | nil => intro _; simp
    | cons a l ih =>
      intro h
      have h1 := ih fun p hp => h p (List.mem_cons_of_mem _ hp)
      have h2 := h a (List.mem_cons_self ..)
      rw [List.map_cons, List.map_cons, List.sum_cons, len_S, List.length_cons, Nat.succ_mul]
      omega
  have e : joinD (SX.S [32]) (.lst (l.map tx)) = (D.strs (l.map tx)).bind fun ys => if (ys.map (·.length)).sum + ys.length * (SX.S [32]).length ≤ 16777216 then some (.v (.str (Txt.join (SX.S [32]) ys))) else none := rfl
  rw [e, strs_tx]
  show (if ((l.map SX.S).map (·.length)).sum + (l.map SX.S).length * (SX.S [32]).length ≤ 16777216 then _ else none) = _
  have := s l h
  rw [if_pos]
  rw [List.length_map, len_S]
  show _ + l.length * 1 ≤ _
  omega
theorem joinL_len {l : List (List Nat)} {k : Nat} (h : ∀ p ∈ l, p.length ≤ k) : (TL.joinL [32] l).length ≤ l.length * k + l.length := by
  match l, h with
  | [], _ => exact Nat.zero_le _
  | [p], h =>
    have := h p (List.mem_cons_self ..)
    show p.length ≤ _
    simp only [List.length_cons, List.length_nil]
    omega
  | p :: q :: r, h =>
    have h1 := joinL_len (l := q :: r) fun z hz => h z (List.mem_cons_of_mem _ hz)
    have h2 := h p (List.mem_cons_self ..)
    show (p ++ ([32] ++ TL.joinL [32] (q :: r))).length ≤ _
    rw [List.length_append, List.length_append]
    simp only [List.length_cons, List.length_nil, Nat.succ_mul] at *
    omega
theorem str_dec {i : Int} {n : Nat} [h : SzC i n] (hn : n ≤ 1900) : strC [.int i] = some (.v (tx (decL i))) := by
  rw [str_ok hn, dec_S]
/-- numbers of at most forty figures -/
def F40 (i : Int) : Prop := i.natAbs < 10 ^ 40
theorem F40.sz {i : Int} (h : F40 i) : SzC i 140 := ⟨by
  have e : (10 : Nat) ^ 40 < 2 ^ 140 := by decide +kernel
  have : i.natAbs < 10 ^ 40 := h
  omega⟩
theorem F40.len {i : Int} (h : F40 i) : (TL.numL i.natAbs).length ≤ 40 ∧ (decL i).length ≤ 41 := dec_len (by decide) h
theorem dec_no {i : Int} : 32 ∉ decL i := fun h => by
  have := dec_sign h
  omega
theorem int_dec {i : Int} (h : F40 i) : intC [tx (decL i)] = some (.v (.int i)) := dec_int (by have := h.len.1; omega)
/-- the text of a word and numbers -/
def deedT (w : List Nat) (l : List Int) : Str := Txt.join (SX.S [32]) ((w :: l.map decL).map SX.S)
theorem deed_join {w : List Nat} {l : List Int} (hw : w.length ≤ 41) (h : ∀ i ∈ l, F40 i) (hl : l.length ≤ 10) : joinD (SX.S [32]) (.lst (tx w :: l.map fun i => tx (decL i))) = some (.v (.str (deedT w l))) := by
  have := join_tx (l := w :: l.map decL) (k := 41) (fun p hp => by
    rcases List.mem_cons.1 hp with e | hp
    · rw [e]; exact hw
    · obtain ⟨i, hi, e⟩ := List.mem_map.1 hp
      rw [← e]
      exact (h i hi).len.2) (by rw [List.length_cons, List.length_map]; omega)
  rw [List.map_cons, List.map_map] at this
  exact this
theorem deed_split {w : List Nat} {l : List Int} (hw : w.length ≤ 41) (h32 : 32 ∉ w) (h : ∀ i ∈ l, F40 i) (hl : l.length ≤ 10) : splitD (deedT w l) (tx [32]) = some (.n (.lst (tx w :: l.map fun i => tx (decL i)))) := by
  have k : ∀ p ∈ w :: l.map decL, p.length ≤ 41 := fun p hp => by
    rcases List.mem_cons.1 hp with e | hp
    · rw [e]; exact hw
    · obtain ⟨i, hi, e⟩ := List.mem_map.1 hp
      rw [← e]
      exact (h i hi).len.2
  have := split_joined (c := 32) (parts := w :: l.map decL) (by decide) (List.cons_ne_nil _ _) (fun p hp => by
    rcases List.mem_cons.1 hp with e | hp
    · rw [e]; exact h32
    · obtain ⟨i, hi, e⟩ := List.mem_map.1 hp
      rw [← e]
      exact dec_no) (Nat.le_trans (joinL_len k) (by rw [List.length_cons, List.length_map]; omega))
  have e : (w :: l.map decL).map tx = tx w :: l.map fun i => tx (decL i) := by
    rw [List.map_cons, List.map_map]
    rfl
  rw [e] at this
  exact this
def wTurn : List Nat := [116, 117, 114, 110]
/-- of numbers of at most forty figures -/
structure Fq (q : Q) : Prop where
  a : F40 q.a
  b : F40 q.b
  c : F40 q.c
  d : F40 q.d
theorem Fq.all {q : Q} (h : Fq q) : ∀ i ∈ [q.a, q.b, q.c, q.d], F40 i := fun i hi => by
  simp only [List.mem_cons, List.not_mem_nil, or_false] at hi
  rcases hi with rfl | rfl | rfl | rfl
  · exact h.a
  · exact h.b
  · exact h.c
  · exact h.d
theorem Fq.qc {q : Q} (h : Fq q) : QC q 140 := ⟨h.a.sz, h.b.sz, h.c.sz, h.d.sz⟩
theorem turn_words {q : Q} (h : Fq q) : f_words_of [.str "turn", q.dt] = some (.v (.str (deedT wTurn [q.a, q.b, q.c, q.d]))) := by
  haveI := h.qc
  have s1 := str_dec (i := q.a) (n := 140) (by decide)
  have s2 := str_dec (i := q.b) (n := 140) (by decide)
  have s3 := str_dec (i := q.c) (n := 140) (by decide)
  have s4 := str_dec (i := q.d) (n := 140) (by decide)
  have jn := deed_join (w := wTurn) (by decide) h.all (by simp)
  have jn' : joinD (Str.ofString " ") (.lst [.str "turn", tx (decL q.a), tx (decL q.b), tx (decL q.c), tx (decL q.d)]) = some (.v (.str (deedT wTurn [q.a, q.b, q.c, q.d]))) := jn
  unfold f_words_of b_words_of e_words_of_0
  generalize tx (decL q.a) = w1 at *
  generalize tx (decL q.b) = w2 at *
  generalize tx (decL q.c) = w3 at *
  generalize tx (decL q.d) = w4 at *
  wp_walk using s1, s2, s3, s4, jn'
theorem tt_eq : eqD (.str "turn") (.str "turn") = some (.v (.bl true)) := eqD_str
theorem turn_read {q : Q} (h : Fq q) (h0 : ¬ q = ⟨0, 0, 0, 0⟩) : f_deed_read [.str (deedT wTurn [q.a, q.b, q.c, q.d])] = some (.v (trn q)) := by
  haveI := h.qc
  have sp := deed_split (w := wTurn) (by decide) (by decide) h.all (by simp)
  have sp' : splitD (deedT wTurn [q.a, q.b, q.c, q.d]) (.str " ") = some (.n (.lst [.str "turn", tx (decL q.a), tx (decL q.b), tx (decL q.c), tx (decL q.d)])) := sp
  have w1 := writes_e h.a.len.1
  have w2 := writes_e h.b.len.1
  have w3 := writes_e h.c.len.1
  have w4 := writes_e h.d.len.1
  have i1 := int_dec h.a
  have i2 := int_dec h.b
  have i3 := int_dec h.c
  have i4 := int_dec h.d
  have tr := ins_trn (q := q) (n := 140) (by decide) h0
  have ed : D.tup [.int q.a, .int q.b, .int q.c, .int q.d] = q.dt := rfl
  unfold f_deed_read b_deed_read w_deed_read_0 e_deed_read_0
  generalize tx (decL q.a) = w1 at *
  generalize tx (decL q.b) = w2 at *
  generalize tx (decL q.c) = w3 at *
  generalize tx (decL q.d) = w4 at *
  wp_walk using sp', lk_kt_COUNTS_turn, Option.map_some, w1, w2, w3, w4, i1, i2, i3, i4, tr, ed, tt_eq, cutG_drop
theorem trn_told (q : Q) (h : Fq (toldQ q)) : f_Turn_told [trn q] = some (.v (.str (deedT wTurn [(toldQ q).a, (toldQ q).b, (toldQ q).c, (toldQ q).d]))) := by
  have e := turn_words h
  unfold f_Turn_told b_Turn_told
  wp_walk using kept_trn, e
def wHalf : List Nat := [104, 97, 108, 102]
def wMirr : List Nat := [109, 105, 114, 114, 111, 114]
structure Fv (v : V3) : Prop where
  x : F40 v.x
  y : F40 v.y
  z : F40 v.z
theorem Fv.all {v : V3} (h : Fv v) : ∀ i ∈ [v.x, v.y, v.z], F40 i := fun i hi => by
  simp only [List.mem_cons, List.not_mem_nil, or_false] at hi
  rcases hi with rfl | rfl | rfl
  · exact h.x
  · exact h.y
  · exact h.z
theorem Fv.vc {v : V3} (h : Fv v) : VC v 140 := ⟨h.x.sz, h.y.sz, h.z.sz⟩
theorem half_text {v : V3} (h : Fv v) : f_words_of [.str "half", v.tp] = some (.v (.str (deedT wHalf [v.x, v.y, v.z]))) := by
  haveI := h.vc
  have t1 := str_dec (i := v.x) (n := 140) (by decide)
  have t2 := str_dec (i := v.y) (n := 140) (by decide)
  have t3 := str_dec (i := v.z) (n := 140) (by decide)
  have jn := deed_join (w := wHalf) (by decide) h.all (by simp)
  have jn' : joinD (Str.ofString " ") (.lst [.str "half", tx (decL v.x), tx (decL v.y), tx (decL v.z)]) = some (.v (.str (deedT wHalf [v.x, v.y, v.z]))) := jn
  generalize tx (decL v.x) = w1 at *
  generalize tx (decL v.y) = w2 at *
  generalize tx (decL v.z) = w3 at *
  unfold f_words_of b_words_of e_words_of_0
  wp_walk using t1, t2, t3, jn'
theorem mirr_text {v : V3} (h : Fv v) : f_words_of [.str "mirror", v.tp] = some (.v (.str (deedT wMirr [v.x, v.y, v.z]))) := by
  haveI := h.vc
  have t1 := str_dec (i := v.x) (n := 140) (by decide)
  have t2 := str_dec (i := v.y) (n := 140) (by decide)
  have t3 := str_dec (i := v.z) (n := 140) (by decide)
  have jn := deed_join (w := wMirr) (by decide) h.all (by simp)
  have jn' : joinD (Str.ofString " ") (.lst [.str "mirror", tx (decL v.x), tx (decL v.y), tx (decL v.z)]) = some (.v (.str (deedT wMirr [v.x, v.y, v.z]))) := jn
  generalize tx (decL v.x) = w1 at *
  generalize tx (decL v.y) = w2 at *
  generalize tx (decL v.z) = w3 at *
  unfold f_words_of b_words_of e_words_of_0
  wp_walk using t1, t2, t3, jn'
theorem hh_eq : eqD (.str "half") (.str "half") = some (.v (.bl true)) := eqD_str
theorem ht_eq : eqD (.str "half") (.str "turn") = some (.v (.bl false)) := by kernel_rfl
theorem mt_eq : eqD (.str "mirror") (.str "turn") = some (.v (.bl false)) := by kernel_rfl
theorem mh_eq : eqD (.str "mirror") (.str "half") = some (.v (.bl false)) := by kernel_rfl
theorem half_read {v : V3} (h : Fv v) (h0 : ¬ v = ⟨0, 0, 0⟩) : f_deed_read [.str (deedT wHalf [v.x, v.y, v.z])] = some (.v (hal v)) := by
  haveI := h.vc
  have sp := deed_split (w := wHalf) (by decide) (by decide) h.all (by simp)
  have sp' : splitD (deedT wHalf [v.x, v.y, v.z]) (.str " ") = some (.n (.lst [.str "half", tx (decL v.x), tx (decL v.y), tx (decL v.z)])) := sp
  have w1 := writes_e h.x.len.1
  have w2 := writes_e h.y.len.1
  have w3 := writes_e h.z.len.1
  have i1 := int_dec h.x
  have i2 := int_dec h.y
  have i3 := int_dec h.z
  have tr := ins_hal (v := v) (n := 140) (by decide) h0
  have ed : D.tup [.int v.x, .int v.y, .int v.z] = v.tp := rfl
  unfold f_deed_read b_deed_read w_deed_read_0 e_deed_read_0
  generalize tx (decL v.x) = w1 at *
  generalize tx (decL v.y) = w2 at *
  generalize tx (decL v.z) = w3 at *
  wp_walk using sp', lk_kt_COUNTS_half, Option.map_some, w1, w2, w3, i1, i2, i3, tr, ed, ht_eq, hh_eq, cutG_drop
theorem mirr_read {v : V3} (h : Fv v) (h0 : ¬ v = ⟨0, 0, 0⟩) : f_deed_read [.str (deedT wMirr [v.x, v.y, v.z])] = some (.v (mir v)) := by
  haveI := h.vc
  have sp := deed_split (w := wMirr) (by decide) (by decide) h.all (by simp)
  have sp' : splitD (deedT wMirr [v.x, v.y, v.z]) (.str " ") = some (.n (.lst [.str "mirror", tx (decL v.x), tx (decL v.y), tx (decL v.z)])) := sp
  have w1 := writes_e h.x.len.1
  have w2 := writes_e h.y.len.1
  have w3 := writes_e h.z.len.1
  have i1 := int_dec h.x
  have i2 := int_dec h.y
  have i3 := int_dec h.z
  have tr := ins_mir (v := v) (n := 140) (by decide) h0
  have ed : D.tup [.int v.x, .int v.y, .int v.z] = v.tp := rfl
  unfold f_deed_read b_deed_read w_deed_read_0 e_deed_read_0
  generalize tx (decL v.x) = w1 at *
  generalize tx (decL v.y) = w2 at *
  generalize tx (decL v.z) = w3 at *
  wp_walk using sp', lk_kt_COUNTS_mirror, Option.map_some, w1, w2, w3, i1, i2, i3, tr, ed, mt_eq, mh_eq, cutG_drop
theorem half_told (v : V3) (h : Fv (toldV v)) : f_HalfTurn_told [hal v] = some (.v (.str (deedT wHalf [(toldV v).x, (toldV v).y, (toldV v).z]))) := by
  have e := half_text h
  have k : fldD cs_kept "kept" (hal v) = some (.v (toldV v).tp) := rfl
  unfold f_HalfTurn_told b_HalfTurn_told
  wp_walk using k, e
theorem mirr_told (v : V3) (h : Fv (toldV v)) : f_Mirror_told [mir v] = some (.v (.str (deedT wMirr [(toldV v).x, (toldV v).y, (toldV v).z]))) := by
  have e := mirr_text h
  have k : fldD cs_kept "kept" (mir v) = some (.v (toldV v).tp) := rfl
  unfold f_Mirror_told b_Mirror_told
  wp_walk using k, e
theorem told_fq {q : Q} (h : Fq q) (h0 : ¬ q = ⟨0, 0, 0, 0⟩) : Fq (toldQ q) := by
  have b := told_back q
  have b0 := by_ne h0
  have le : ∀ {x y : Int}, byQ q * x = y → F40 y → F40 x := fun {x y} e hy => by
    unfold F40 at *
    have h1 : y.natAbs = (byQ q).natAbs * x.natAbs := by rw [← e, Int.natAbs_mul]
    have h2 : 1 * x.natAbs ≤ (byQ q).natAbs * x.natAbs := Nat.mul_le_mul_right _ (by omega)
    omega
  exact ⟨le (congrArg Q.a b) h.a, le (congrArg Q.b b) h.b, le (congrArg Q.c b) h.c, le (congrArg Q.d b) h.d⟩
theorem told_fv {v : V3} (h : Fv v) (h0 : ¬ v = ⟨0, 0, 0⟩) : Fv (toldV v) := by
  have z : F40 0 := by unfold F40; exact Nat.pow_pos (by decide)
  have := told_fq (q := axQ v) ⟨z, h.x, h.y, h.z⟩ (ax_ne h0)
  exact ⟨this.b, this.c, this.d⟩
/-- a comprehension with a test -/
theorem lc_filt {α : Type} {tg : Tg} {c : Tv} {elt : Ev} {env : En} {h k : α → D} (p : α → Bool) : ∀ (l : List α), (∀ x ∈ l, ∃ e, tg.set (h x) env = some e ∧ c e = some (.ok (p x)) ∧ (p x = true → elt e = some (.v (k x)) ∨ elt e = some (.n (k x)))) → lcGo tg c elt env (l.map h) = some ((l.filter p).map k)
  | [], _ => rfl
  | x :: l, H => by
    obtain ⟨e, h1, h2, h3⟩ := H x (List.mem_cons_self ..)
    rw [List.map_cons, lc_c, h1, lset_some, h2, lc_filt p l fun y hy => H y (List.mem_cons_of_mem _ hy), ltest_ok]
    cases hp : p x with
    | true =>
      rw [List.filter_cons_of_pos hp, if_pos rfl]
      rcases h3 hp with h3 | h3 <;> rw [h3] <;> rfl
    | false =>
      rw [List.filter_cons_of_neg (by rw [hp]; exact Bool.false_ne_true), if_neg Bool.false_ne_true]
theorem rgD_map (lo : Int) (n : Nat) : rgD lo n = ((List.range n).map fun (i : Nat) => lo + (i : Int)).map .int := by
  unfold rgD
  rw [List.map_map]
  rfl
/-- the whole numbers from lo on -/
def rgI (lo : Int) (n : Nat) : List Int := (List.range n).map fun (i : Nat) => lo + (i : Int)
theorem rgI_mem {lo x : Int} {n : Nat} : x ∈ rgI lo n ↔ lo ≤ x ∧ x < lo + n := by
  unfold rgI
  rw [List.mem_map]
  constructor
  · rintro ⟨i, hi, rfl⟩
    have := List.mem_range.1 hi
    omega
  · intro ⟨h1, h2⟩
    exact ⟨(x - lo).toNat, List.mem_range.2 (by omega), by omega⟩
theorem rgD_I (lo : Int) (n : Nat) : rgD lo n = (rgI lo n).map .int := rgD_map lo n
theorem mask_any (nm : List Nat) (k : Nat) (s : Slot) (e : En) : maskGo nm k (s :: e) = maskS (nm.contains k) s :: maskGo nm (k + 1) e := rfl
theorem frz_any (nm : List Nat) (k : Nat) (s : Slot) (e : En) : frzGo nm k (s :: e) = frzS (nm.contains k) s :: frzGo nm (k + 1) e := rfl
theorem maskS_sh (b : Bool) (d : D) : maskS b (.sh d) = .sh d := rfl
theorem frzS_sh (b : Bool) (d : D) : frzS b (.sh d) = .sh d := rfl
theorem maskS_un (b : Bool) : maskS b .un = .un := rfl
theorem frzS_un (b : Bool) : frzS b .un = .un := rfl
theorem maskS_t (d : D) : maskS true (.own d) = .own d := rfl
theorem maskS_f (d : D) : maskS false (.own d) = .un := rfl
theorem frzS_t (d : D) : frzS true (.own d) = .sh d := rfl
theorem frzS_f (s : Slot) : frzS false s = s := by cases s <;> rfl
theorem rgI_len' (lo : Int) (n : Nat) : (rgI lo n).length = n := by
  unfold rgI
  rw [List.length_map, List.length_range]
theorem flat_len' {α β : Type} (f : α → List β) (m : Nat) : ∀ l : List α, (∀ x ∈ l, (f x).length ≤ m) → (l.flatMap f).length ≤ l.length * m
  | [], _ => by simp
  | x :: l, h => by
    have h1 := h x (List.mem_cons_self ..)
    have h2 := flat_len' f m l fun y hy => h y (List.mem_cons_of_mem _ hy)
    rw [List.flatMap_cons, List.length_append, List.length_cons, Nat.add_mul]
    omega
theorem flat_snoc' {α β : Type} (f : α → List β) (l : List α) (x : α) : (l ++ [x]).flatMap f = l.flatMap f ++ f x := by
  rw [List.flatMap_append]
  simp
theorem pre_le' {α : Type} {l d r : List α} {x : α} (he : [] ++ l = d ++ x :: r) : d.length ≤ l.length ∧ x ∈ l ∧ ∀ y ∈ d, y ∈ l := by
  rw [List.nil_append] at he
  subst he
  exact ⟨by rw [List.length_append]; omega, by simp, fun y hy => List.mem_append_left _ hy⟩
theorem bls_map {α : Type} (f : α → Bool) : ∀ l : List α, D.bls (l.map fun x => D.bl (f x)) = some (l.map f)
  | [] => rfl
  | x :: l => by rw [List.map_cons, D.bls, bls_map f l]; rfl
theorem num_lt (n : Nat) : n < 10 ^ (TL.numL n).length := by
  induction n using Nat.strongRecOn with
  | _ n ih =>
    by_cases h : n < 10
    · rw [TL.numL_lt h]
      exact h
    · have := ih (n / 10) (by omega)
      rw [TL.numL_step (by omega), List.length_append]
      show n < 10 ^ ((TL.numL (n / 10)).length + 1)
      rw [Nat.pow_succ]
      omega
theorem lit_minus : D.str "-" = tx [45] := rfl
theorem dec_cons (i : Int) : ∃ c l, TL.numL i.natAbs = c :: l ∧ decL i = (if i < 0 then 45 :: c :: l else c :: l) ∧ ∀ d ∈ c :: l, 48 ≤ d ∧ d ≤ 57 := by
  obtain ⟨c, l, e, hc⟩ := num_cons i.natAbs
  refine ⟨c, l, e, ?_, fun d hd => num_dig (by rw [e]; exact hd)⟩
  unfold decL
  rw [e]
/-- a sign ahead, or none -/
theorem dec_head {i : Int} (h : (decL i).length ≤ 60) : ∃ (a : D) (b : Bool) (F : List Nat), F = TL.numL i.natAbs ∧ slD (tx (decL i)) none (some 1) = some (.v a) ∧ eqD a (tx [45]) = some (.v (.bl b)) ∧ (b = true → slD (tx (decL i)) (some 1) none = some (.v (tx F))) ∧ (b = false → decL i = F) := by
  obtain ⟨c, l, e, d, dg⟩ := dec_cons i
  have z45 : ∀ d ∈ [45], d < 1114112 := by decide
  have dc := dg c (List.mem_cons_self ..)
  by_cases h0 : i < 0
  · rw [if_pos h0] at d
    refine ⟨tx [45], true, c :: l, e.symm, ?_, by rw [eqD_S z45 z45]; rfl, fun _ => ?_, fun z => (nomatch z)⟩
    · rw [slD_S (by omega), d, cutG_take _ _ (by decide)]
      rfl
    · rw [slD_S (by omega), d, cutG_drop _ _ (by decide)]
      rfl
  · rw [if_neg h0] at d
    refine ⟨tx [c], false, c :: l, e.symm, ?_, ?_, fun z => (nomatch z), fun _ => d⟩
    · rw [slD_S (by omega), d, cutG_take _ _ (by decide)]
      rfl
    · rw [eqD_S (small_S dc) z45, decide_eq_false]
      intro hh
      have := (List.cons.inj hh).1
      omega
/-- a word that both look at alike -/
structure DW (w : List Nat) (v : Option Int) : Prop where
  wr : f_writes_whole [tx w] = some (.v (.bl v.isSome))
  lr : f__law_right [tx w] = some (.v (.bl v.isSome))
  nb : 32 ∉ w
  len : w.length ≤ 60
  sm : ∀ d ∈ w, d < 1114112
  val : ∀ i, v = some i → w = decL i ∧ F40 i
theorem no_fig (A B : Slot) (l : List Nat) (h : ∀ d ∈ l, 48 ≤ d ∧ d ≤ 57) : lcGo (.nm 2) tYes' e__law_right_0 [A, B, .un] (l.map fun c => tx [c]) = some (l.map fun _ => D.bl false) := lc_map l fun c hc => by
  have e := dig_in (h c hc)
  refine ⟨_, tgNm _ _ _, .inl ?_⟩
  unfold e__law_right_0
  cases A <;> cases B <;> wp_walk using e
theorem any_false (l : List Nat) : anyC [.lst (l.map fun _ => D.bl false)] = some (.v (.bl false)) := by
  have bl := bls_map (fun _ : Nat => false) l
  rw [any_l, bl]
  show some (Vn.v (.bl ((l.map fun _ => false).any id))) = _
  rw [List.any_map]
  congr 3
  exact List.any_eq_false.2 fun x _ => by simp
theorem lright_e {i : Int} (h : (TL.numL i.natAbs).length ≤ 40) : f__law_right [tx (decL i)] = some (.v (.bl true)) := by
  have dl : (decL i).length ≤ 60 := by
    unfold decL
    split
    · simp only [List.length_cons]; omega
    · omega
  obtain ⟨a, b, F, e, s1, q1, s2, s3⟩ := dec_head dl
  obtain ⟨c, l, e2, hc⟩ := num_cons i.natAbs
  have ef : F = c :: l := e.trans e2
  have fd : ∀ d ∈ F, 48 ≤ d ∧ d ≤ 57 := fun d hd => num_dig (by rw [← e]; exact hd)
  have dc := fd c (by rw [ef]; exact List.mem_cons_self ..)
  have n1 := lenC_S (l := F) (by rw [e]; omega)
  have n2 : 1 ≤ ((F.length : Nat) : Int) := by rw [ef]; simp only [List.length_cons]; omega
  have n3 : ((F.length : Nat) : Int) ≤ 40 := by rw [e]; omega
  have sq := seqD_S F
  have dg := fun A B => no_fig A B F fd
  have at' := any_false F
  have fl : (F.map fun c => tx [c]).length ≤ 16777216 := by rw [List.length_map, e]; omega
  have x0 : ixD (tx F) (.int 0) = some (.v (tx [c])) := by
    rw [ef]
    exact ix_S (by rw [← ef, e]; omega)
  have z48 : ∀ d ∈ [48], d < 1114112 := by decide
  have qn : neD (tx [c]) (tx [48]) = some (.v (.bl (!decide ([c] = [48])))) := neD_S (small_S dc) z48
  have fin : ∃ b1 b2 : Bool, neD (tx [c]) (tx [48]) = some (.v (.bl b1)) ∧ (b1 = false → eqD (tx (decL i)) (tx [48]) = some (.v (.bl true))) := by
    by_cases h48 : c = 48
    · refine ⟨false, true, by rw [qn, h48]; rfl, fun _ => ?_⟩
      have n0 := hc h48
      have d0 : decL i = [48] := by
        unfold decL
        rw [if_neg (by omega), n0, num_zero]
      rw [d0, eqD_S z48 z48]
      rfl
    · refine ⟨true, true, ?_, fun z => by cases z⟩
      rw [qn, decide_eq_false (fun z => h48 (List.cons.inj z).1)]
      rfl
  obtain ⟨b1, _, g1, g2⟩ := fin
  clear e e2 hc ef fd dc qn
  generalize (F.map fun c => tx [c]) = L1 at *
  generalize (F.map fun _ => D.bl false) = L2 at *
  generalize (F.length : Int) = k at *
  unfold f__law_right b__law_right
  cases b
  · have s3 := s3 rfl
    rw [s3] at s1 g2 ⊢
    generalize tx F = f at *
    generalize tx [c] = t at *
    cases b1
    · have g2 := g2 rfl
      wp_walk using s1, lit_minus, lit_zero, q1, n1, n2, n3, sq, dg, at', fl, x0, g1, g2
    · wp_walk using s1, lit_minus, lit_zero, q1, n1, n2, n3, sq, dg, at', fl, x0, g1
  · have s2 := s2 rfl
    generalize tx F = f at *
    generalize tx (decL i) = w at *
    generalize tx [c] = t at *
    cases b1
    · have g2 := g2 rfl
      wp_walk using s1, lit_minus, lit_zero, q1, s2, n1, n2, n3, sq, dg, at', fl, x0, g1, g2
    · wp_walk using s1, lit_minus, lit_zero, q1, s2, n1, n2, n3, sq, dg, at', fl, x0, g1
theorem dw_dec {i : Int} (h : F40 i) : DW (decL i) (some i) := by
  obtain ⟨l1, l2⟩ := h.len
  exact ⟨writes_e l1, lright_e l1, dec_no, by omega, dec_small i, fun j hj => by cases hj; exact ⟨rfl, h⟩⟩
def DWx (w : List Nat) : Prop := ∃ v, DW w v
theorem dw_0 : DWx [] := ⟨none, by kernel_rfl, by kernel_rfl, by decide, by decide, by decide, fun i hi => by cases hi⟩
theorem dw_1 : DWx [45, 48] := ⟨none, by kernel_rfl, by kernel_rfl, by decide, by decide, by decide, fun i hi => by cases hi⟩
theorem dw_2 : DWx [43, 49] := ⟨none, by kernel_rfl, by kernel_rfl, by decide, by decide, by decide, fun i hi => by cases hi⟩
theorem dw_3 : DWx [48, 49] := ⟨none, by kernel_rfl, by kernel_rfl, by decide, by decide, by decide, fun i hi => by cases hi⟩
theorem dw_4 : DWx [45] := ⟨none, by kernel_rfl, by kernel_rfl, by decide, by decide, by decide, fun i hi => by cases hi⟩
theorem dw_5 : DWx [49, 47, 50] := ⟨none, by kernel_rfl, by kernel_rfl, by decide, by decide, by decide, fun i hi => by cases hi⟩
theorem dw_6 : DWx [49, 46, 48] := ⟨none, by kernel_rfl, by kernel_rfl, by decide, by decide, by decide, fun i hi => by cases hi⟩
theorem dw_7 : DWx [116, 117, 114, 110] := ⟨none, by kernel_rfl, by kernel_rfl, by decide, by decide, by decide, fun i hi => by cases hi⟩
theorem dw_8 : DWx [104, 97, 108, 102] := ⟨none, by kernel_rfl, by kernel_rfl, by decide, by decide, by decide, fun i hi => by cases hi⟩
theorem dw_9 : DWx [109, 105, 114, 114, 111, 114] := ⟨none, by kernel_rfl, by kernel_rfl, by decide, by decide, by decide, fun i hi => by cases hi⟩
theorem dw_10 : DWx [84, 117, 114, 110] := ⟨none, by kernel_rfl, by kernel_rfl, by decide, by decide, by decide, fun i hi => by cases hi⟩
theorem dw_11 : DWx [45, 45, 49] := ⟨none, by kernel_rfl, by kernel_rfl, by decide, by decide, by decide, fun i hi => by cases hi⟩
theorem dw_12 : DWx [49, 45] := ⟨none, by kernel_rfl, by kernel_rfl, by decide, by decide, by decide, fun i hi => by cases hi⟩
theorem dw_13 : DWx [48, 48] := ⟨none, by kernel_rfl, by kernel_rfl, by decide, by decide, by decide, fun i hi => by cases hi⟩
theorem dec_closed : decL 0 = [48] ∧ decL (-7) = [45, 55] := by
  refine ⟨?_, ?_⟩ <;> (unfold decL; simp; rw [TL.numL_lt (by decide)])
theorem dwx_dec {w : List Nat} (i : Int) (h : F40 i) (e : decL i = w) : DWx w := by
  subst e
  exact ⟨_, dw_dec h⟩
abbrev lg0 : List Nat := [49, 49, 49, 49, 49, 49, 49, 49, 49, 49, 49, 49, 49, 49, 49, 49, 49, 49, 49, 49, 49, 49, 49, 49, 49, 49, 49, 49, 49, 49, 49, 49, 49, 49, 49, 49, 49, 49, 49]
theorem num_lg0 : TL.numL 111111111111111111111111111111111111111 = lg0 := by kernel_rfl
theorem dwl_0 : DWx lg0 := dwx_dec 111111111111111111111111111111111111111 (by unfold F40; decide +kernel) (by unfold decL; rw [if_neg (by decide)]; exact num_lg0)
theorem dwm_0 : DWx (45 :: lg0) := dwx_dec (-111111111111111111111111111111111111111) (by unfold F40; decide +kernel) (by unfold decL; rw [if_pos (by decide)]; exact congrArg (45 :: ·) num_lg0)
def W0 : List (List Nat) := [[], [45, 48], [43, 49], [48, 49], [45], [49, 47, 50], [49, 46, 48], [116, 117, 114, 110], [104, 97, 108, 102], [109, 105, 114, 114, 111, 114], [84, 117, 114, 110], [45, 45, 49], [49, 45], [48], [45, 55], lg0, 45 :: lg0, [48, 48]]
theorem w0_dw : ∀ w ∈ W0, DWx w := by
  intro w hw
  unfold W0 at hw
  simp only [List.mem_cons, List.not_mem_nil, or_false] at hw
  rcases hw with rfl | rfl | rfl | rfl | rfl | rfl | rfl | rfl | rfl | rfl | rfl | rfl | rfl | rfl | rfl | rfl | rfl | rfl
  · exact dw_0
  · exact dw_1
  · exact dw_2
  · exact dw_3
  · exact dw_4
  · exact dw_5
  · exact dw_6
  · exact dw_7
  · exact dw_8
  · exact dw_9
  · exact dw_10
  · exact dw_11
  · exact dw_12
  · exact dwx_dec 0 (by unfold F40; decide +kernel) dec_closed.1
  · exact dwx_dec (-7) (by unfold F40; decide +kernel) dec_closed.2
  · exact dwl_0
  · exact dwm_0
  · exact dw_13
abbrev lg1 : List Nat := [49, 49, 49, 49, 49, 49, 49, 49, 49, 49, 49, 49, 49, 49, 49, 49, 49, 49, 49, 49, 49, 49, 49, 49, 49, 49, 49, 49, 49, 49, 49, 49, 49, 49, 49, 49, 49, 49, 49, 50]
theorem num_lg1 : TL.numL 1111111111111111111111111111111111111112 = lg1 := by kernel_rfl
theorem dwl_1 : DWx lg1 := dwx_dec 1111111111111111111111111111111111111112 (by unfold F40; decide +kernel) (by unfold decL; rw [if_neg (by decide)]; exact num_lg1)
theorem dwm_1 : DWx (45 :: lg1) := dwx_dec (-1111111111111111111111111111111111111112) (by unfold F40; decide +kernel) (by unfold decL; rw [if_pos (by decide)]; exact congrArg (45 :: ·) num_lg1)
def W1 : List (List Nat) := [[], [45, 48], [43, 49], [48, 49], [45], [49, 47, 50], [49, 46, 48], [116, 117, 114, 110], [104, 97, 108, 102], [109, 105, 114, 114, 111, 114], [84, 117, 114, 110], [45, 45, 49], [49, 45], [48], [45, 55], lg1, 45 :: lg1, [48, 48]]
theorem w1_dw : ∀ w ∈ W1, DWx w := by
  intro w hw
  unfold W1 at hw
  simp only [List.mem_cons, List.not_mem_nil, or_false] at hw
  rcases hw with rfl | rfl | rfl | rfl | rfl | rfl | rfl | rfl | rfl | rfl | rfl | rfl | rfl | rfl | rfl | rfl | rfl | rfl
  · exact dw_0
  · exact dw_1
  · exact dw_2
  · exact dw_3
  · exact dw_4
  · exact dw_5
  · exact dw_6
  · exact dw_7
  · exact dw_8
  · exact dw_9
  · exact dw_10
  · exact dw_11
  · exact dw_12
  · exact dwx_dec 0 (by unfold F40; decide +kernel) dec_closed.1
  · exact dwx_dec (-7) (by unfold F40; decide +kernel) dec_closed.2
  · exact dwl_1
  · exact dwm_1
  · exact dw_13
abbrev lg2 : List Nat := [49, 49, 49, 49, 49, 49, 49, 49, 49, 49, 49, 49, 49, 49, 49, 49, 49, 49, 49, 49, 49, 49, 49, 49, 49, 49, 49, 49, 49, 49, 49, 49, 49, 49, 49, 49, 49, 49, 49, 50, 51]
theorem dwl_2 : DWx lg2 := ⟨none, by kernel_rfl, by kernel_rfl, by decide, by decide, by decide, fun i hi => by cases hi⟩
theorem dwm_2 : DWx (45 :: lg2) := ⟨none, by kernel_rfl, by kernel_rfl, by decide, by decide, by decide, fun i hi => by cases hi⟩
def W2 : List (List Nat) := [[], [45, 48], [43, 49], [48, 49], [45], [49, 47, 50], [49, 46, 48], [116, 117, 114, 110], [104, 97, 108, 102], [109, 105, 114, 114, 111, 114], [84, 117, 114, 110], [45, 45, 49], [49, 45], [48], [45, 55], lg2, 45 :: lg2, [48, 48]]
theorem w2_dw : ∀ w ∈ W2, DWx w := by
  intro w hw
  unfold W2 at hw
  simp only [List.mem_cons, List.not_mem_nil, or_false] at hw
  rcases hw with rfl | rfl | rfl | rfl | rfl | rfl | rfl | rfl | rfl | rfl | rfl | rfl | rfl | rfl | rfl | rfl | rfl | rfl
  · exact dw_0
  · exact dw_1
  · exact dw_2
  · exact dw_3
  · exact dw_4
  · exact dw_5
  · exact dw_6
  · exact dw_7
  · exact dw_8
  · exact dw_9
  · exact dw_10
  · exact dw_11
  · exact dw_12
  · exact dwx_dec 0 (by unfold F40; decide +kernel) dec_closed.1
  · exact dwx_dec (-7) (by unfold F40; decide +kernel) dec_closed.2
  · exact dwl_2
  · exact dwm_2
  · exact dw_13
theorem tx_pick {l : List (List Nat)} {i : Int} (h0 : 0 ≤ i) (h1 : i < l.length) : ∃ w, ixD (.lst (l.map tx)) (.int i) = some (.v (tx w)) ∧ w ∈ l := by
  have hl : i.toNat < l.length := by omega
  refine ⟨l[i.toNat], ?_, List.getElem_mem hl⟩
  have e : i = (i.toNat : Int) := by omega
  rw [ix_lst]
  conv => lhs; rw [e]
  rw [atI_nat, List.getElem?_map, List.getElem?_eq_getElem hl]
  rfl
theorem lodd_e {c : Int} {n : Nat} [h : SzC c n] (hn : n ≤ 2000000) : ∃ w, f__law_odd [.int c] = some (.v (tx w)) ∧ DWx w := by
  haveI := h.mono hn
  have m0 := Int.emod_nonneg c (b := 18) (by decide)
  have m1 := Int.emod_lt_of_pos c (b := 18) (by decide)
  have mu : mulSD (.str "1") (.int 39) = some (.v (tx lg0)) := by rw [mulS_at ⟨by decide, by decide, by decide⟩]; kernel_rfl
  unfold f__law_odd b__law_odd
  rcases (show c / 32 % 3 = 0 ∨ c / 32 % 3 = 1 ∨ c / 32 % 3 = 2 by omega) with h3 | h3 | h3
  · obtain ⟨w, hp, hw⟩ := tx_pick (l := W0) m0 m1
    have hp : ixD (.lst [.str "", .str "-0", .str "+1", .str "01", .str "-", .str "1/2", .str "1.0", .str "turn", .str "half", .str "mirror", .str "Turn", .str "--1", .str "1-", .str "0", .str "-7", tx lg0, tx (45 :: lg0), .str "00"]) (.int (c % 18)) = some (.v (tx w)) := hp
    refine ⟨w, ?_, w0_dw w hw⟩
    have sl : slD (.str "23456") none (some 0) = some (.v (tx [])) := by kernel_rfl
    have a1 : addD (tx lg0) (tx []) = some (.v (tx lg0)) := by kernel_rfl
    have a2 : addD (.str "-") (tx lg0) = some (.v (tx (45 :: lg0))) := by kernel_rfl
    generalize tx (45 :: lg0) = M at *
    generalize tx lg0 = N at *
    generalize tx w = T at *
    wp_walk using mu, h3, sl, a1, a2, hp
  · obtain ⟨w, hp, hw⟩ := tx_pick (l := W1) m0 m1
    have hp : ixD (.lst [.str "", .str "-0", .str "+1", .str "01", .str "-", .str "1/2", .str "1.0", .str "turn", .str "half", .str "mirror", .str "Turn", .str "--1", .str "1-", .str "0", .str "-7", tx lg1, tx (45 :: lg1), .str "00"]) (.int (c % 18)) = some (.v (tx w)) := hp
    refine ⟨w, ?_, w1_dw w hw⟩
    have sl : slD (.str "23456") none (some 1) = some (.v (tx [50])) := by kernel_rfl
    have a1 : addD (tx lg0) (tx [50]) = some (.v (tx lg1)) := by kernel_rfl
    have a2 : addD (.str "-") (tx lg1) = some (.v (tx (45 :: lg1))) := by kernel_rfl
    generalize tx (45 :: lg1) = M at *
    generalize tx lg1 = N at *
    generalize tx w = T at *
    wp_walk using mu, h3, sl, a1, a2, hp
  · obtain ⟨w, hp, hw⟩ := tx_pick (l := W2) m0 m1
    have hp : ixD (.lst [.str "", .str "-0", .str "+1", .str "01", .str "-", .str "1/2", .str "1.0", .str "turn", .str "half", .str "mirror", .str "Turn", .str "--1", .str "1-", .str "0", .str "-7", tx lg2, tx (45 :: lg2), .str "00"]) (.int (c % 18)) = some (.v (tx w)) := hp
    refine ⟨w, ?_, w2_dw w hw⟩
    have sl : slD (.str "23456") none (some 2) = some (.v (tx [50, 51])) := by kernel_rfl
    have a1 : addD (tx lg0) (tx [50, 51]) = some (.v (tx lg2)) := by kernel_rfl
    have a2 : addD (.str "-") (tx lg2) = some (.v (tx (45 :: lg2))) := by kernel_rfl
    generalize tx (45 :: lg2) = M at *
    generalize tx lg2 = N at *
    generalize tx w = T at *
    wp_walk using mu, h3, sl, a1, a2, hp
abbrev WP := List Nat × Option Int
abbrev txs (l : List WP) : List D := l.map fun p => tx p.1
/-- the first word that is not right, or one too many -/
def scan41 (M : Int) : Int → List WP → Option Int
  | _, [] => none
  | k, p :: r => if M ≤ k ∨ p.2 = none then some k else scan41 M (k + 1) r
theorem txs_at (pre : List WP) (p : WP) (r : List WP) : ixD (.lst (txs (pre ++ p :: r))) (.int ((pre.length : Nat) : Int)) = some (.v (tx p.1)) := by
  rw [ix_lst, atI_nat, List.getElem?_map, List.getElem?_append_right (Nat.le_refl _), Nat.sub_self]
  rfl
section
variable {L : List D} {M k : Int} {w : D}
theorem due_many (s2 : Slot) (h : M ≤ k) : w__law_due_0 [.sh (.lst L), .sh (.int M), .sh (.int k), .un] = some (.rt (.v (.tup [.lst [.str "NoText"], .int k]))) := by
  unfold w__law_due_0
  wp_walk using h
theorem due_bad (h : ¬ M ≤ k) (x : ixD (.lst L) (.int k) = some (.v w)) (r : f__law_right [w] = some (.v (.bl false))) : w__law_due_0 [.sh (.lst L), .sh (.int M), .sh (.int k), .un] = some (.rt (.v (.tup [.lst [.str "NoText"], .int k]))) := by
  unfold w__law_due_0
  wp_walk using h, x, r
theorem due_ok (h : ¬ M ≤ k) (x : ixD (.lst L) (.int k) = some (.v w)) (r : f__law_right [w] = some (.v (.bl true))) : w__law_due_0 [.sh (.lst L), .sh (.int M), .sh (.int k), .un] = some (.nx [.sh (.lst L), .sh (.int M), .sh (.int k), .un]) := by
  unfold w__law_due_0
  wp_walk using h, x, r
end
theorem due_go_x (M : Int) : ∀ (ps pre : List WP) (j : Int) (s2 : Slot), (∀ p ∈ ps, DW p.1 p.2) → scan41 M (pre.length : Nat) ps = some j →
    forGo (.nm 2) w__law_due_0 [.sh (.lst (txs (pre ++ ps))), .sh (.int M), s2, .un] (rgD (pre.length : Nat) ps.length) = some (.rt (.v (.tup [.lst [.str "NoText"], .int j])))
  | [], pre, j, s2, _, h => by cases h
  | p :: r, pre, j, s2, hd, h => by
    have e : scan41 M (pre.length : Nat) (p :: r) = if M ≤ (pre.length : Nat) ∨ p.2 = none then some ((pre.length : Nat) : Int) else scan41 M ((pre.length : Nat) + 1) r := rfl
    rw [e] at h
    have x := txs_at pre p r
    have dp := hd p (List.mem_cons_self ..)
    rw [List.length_cons, rgD_s, for_c]
    have st : Tg.set (.nm 2) (.int (pre.length : Nat)) [Slot.sh (.lst (txs (pre ++ p :: r))), .sh (.int M), s2, .un] = some [.sh (.lst (txs (pre ++ p :: r))), .sh (.int M), .sh (.int (pre.length : Nat)), .un] := rfl
    rw [st, fset_s]
    by_cases hM : M ≤ (pre.length : Nat)
    · rw [if_pos (.inl hM)] at h
      cases h
      rw [due_many .un hM]
      rfl
    · by_cases hv : p.2 = none
      · rw [if_pos (.inr hv)] at h
        cases h
        rw [due_bad hM x (by rw [dp.lr, hv]; rfl)]
        rfl
      · rw [if_neg (fun z => z.elim hM hv)] at h
        have rr : f__law_right [tx p.1] = some (.v (.bl true)) := by
          rw [dp.lr]
          cases hp : p.2 with
          | none => exact absurd hp hv
          | some i => rfl
        rw [due_ok hM x rr, fstep_nx]
        have l1 : (((pre ++ [p]).length : Nat) : Int) = (pre.length : Nat) + 1 := by rw [List.length_append]; rfl
        have ih := due_go_x M r (pre ++ [p]) j (.sh (.int (pre.length : Nat))) (fun q hq => hd q (List.mem_cons_of_mem _ hq)) (by rw [l1]; exact h)
        rw [l1, List.append_assoc] at ih
        exact ih
theorem due_go_n (M : Int) : ∀ (ps pre : List WP) (s2 : Slot), (∀ p ∈ ps, DW p.1 p.2) → scan41 M (pre.length : Nat) ps = none →
    ∃ s2', forGo (.nm 2) w__law_due_0 [.sh (.lst (txs (pre ++ ps))), .sh (.int M), s2, .un] (rgD (pre.length : Nat) ps.length) = some (.nx [.sh (.lst (txs (pre ++ ps))), .sh (.int M), s2', .un])
  | [], pre, s2, _, h => ⟨s2, rfl⟩
  | p :: r, pre, s2, hd, h => by
    have e : scan41 M (pre.length : Nat) (p :: r) = if M ≤ (pre.length : Nat) ∨ p.2 = none then some ((pre.length : Nat) : Int) else scan41 M ((pre.length : Nat) + 1) r := rfl
    rw [e] at h
    have x := txs_at pre p r
    have dp := hd p (List.mem_cons_self ..)
    by_cases hM : M ≤ (pre.length : Nat)
    · rw [if_pos (.inl hM)] at h
      cases h
    · by_cases hv : p.2 = none
      · rw [if_pos (.inr hv)] at h
        cases h
      · rw [if_neg (fun z => z.elim hM hv)] at h
        have rr : f__law_right [tx p.1] = some (.v (.bl true)) := by
          rw [dp.lr]
          cases hp : p.2 with
          | none => exact absurd hp hv
          | some i => rfl
        have l1 : (((pre ++ [p]).length : Nat) : Int) = (pre.length : Nat) + 1 := by rw [List.length_append]; rfl
        obtain ⟨s', ih⟩ := due_go_n M r (pre ++ [p]) (.sh (.int (pre.length : Nat))) (fun q hq => hd q (List.mem_cons_of_mem _ hq)) (by rw [l1]; exact h)
        rw [l1, List.append_assoc] at ih
        refine ⟨s', ?_⟩
        rw [List.length_cons, rgD_s, for_c]
        have st : Tg.set (.nm 2) (.int (pre.length : Nat)) [Slot.sh (.lst (txs (pre ++ p :: r))), .sh (.int M), s2, .un] = some [.sh (.lst (txs (pre ++ p :: r))), .sh (.int M), .sh (.int (pre.length : Nat)), .un] := rfl
        rw [st, fset_s, due_ok hM x rr, fstep_nx]
        exact ih
section
variable {T L : D} {M k : Int} {w : D}
theorem rd_many (h : M ≤ k) : w_deed_read_0 [.sh T, .sh L, .sh (.int (M - 1)), .sh (.int k), .sh w, .un] = some (.x (.exn "NoText" [("at", .int k)]) [.sh T, .sh L, .sh (.int (M - 1)), .sh (.int k), .sh w, .un]) := by
  have h2 : M - 1 < k := by omega
  generalize M - 1 = N at *
  unfold w_deed_read_0
  wp_walk using h2
theorem rd_bad (h : ¬ M ≤ k) (h0 : 0 < k) (r : f_writes_whole [w] = some (.v (.bl false))) : w_deed_read_0 [.sh T, .sh L, .sh (.int (M - 1)), .sh (.int k), .sh w, .un] = some (.x (.exn "NoText" [("at", .int k)]) [.sh T, .sh L, .sh (.int (M - 1)), .sh (.int k), .sh w, .un]) := by
  have h2 : ¬ M - 1 < k := by omega
  generalize M - 1 = N at *
  unfold w_deed_read_0
  wp_walk using h2, h0, r
theorem rd_ok (h : ¬ M ≤ k) (h0 : 0 < k) (r : f_writes_whole [w] = some (.v (.bl true))) : w_deed_read_0 [.sh T, .sh L, .sh (.int (M - 1)), .sh (.int k), .sh w, .un] = some (.nx [.sh T, .sh L, .sh (.int (M - 1)), .sh (.int k), .sh w, .un]) := by
  have h2 : ¬ M - 1 < k := by omega
  generalize M - 1 = N at *
  unfold w_deed_read_0
  wp_walk using h2, h0, r
theorem rd_0 (h : 0 < M) : w_deed_read_0 [.sh T, .sh L, .sh (.int (M - 1)), .sh (.int 0), .sh w, .un] = some (.nx [.sh T, .sh L, .sh (.int (M - 1)), .sh (.int 0), .sh w, .un]) := by
  have h2 : ¬ M - 1 < 0 := by omega
  generalize M - 1 = N at *
  unfold w_deed_read_0
  wp_walk using h2
end
theorem rd_go_x {T L : D} (M : Int) : ∀ (ps : List WP) (n : Nat) (j : Int) (s3 s4 : Slot), 0 < n → (∀ p ∈ ps, DW p.1 p.2) → scan41 M (n : Int) ps = some j →
    ∃ e', forGo (.tu [3, 4]) w_deed_read_0 [.sh T, .sh L, .sh (.int (M - 1)), s3, s4, .un] (enD n (txs ps)) = some (.x (.exn "NoText" [("at", .int j)]) e')
  | [], n, j, s3, s4, _, _, h => by cases h
  | p :: r, n, j, s3, s4, n0, hd, h => by
    have e : scan41 M (n : Int) (p :: r) = if M ≤ (n : Int) ∨ p.2 = none then some (n : Int) else scan41 M ((n : Int) + 1) r := rfl
    rw [e] at h
    have dp := hd p (List.mem_cons_self ..)
    have en : enD n (txs (p :: r)) = .tup [.int (n : Int), tx p.1] :: enD (n + 1) (txs r) := rfl
    have st : Tg.set (.tu [3, 4]) (.tup [.int (n : Int), tx p.1]) [Slot.sh T, .sh L, .sh (.int (M - 1)), s3, s4, .un] = some [.sh T, .sh L, .sh (.int (M - 1)), .sh (.int (n : Int)), .sh (tx p.1), .un] := rfl
    rw [en, for_c, st, fset_s]
    by_cases hM : M ≤ (n : Int)
    · rw [if_pos (.inl hM)] at h
      cases h
      rw [rd_many hM]
      exact ⟨_, rfl⟩
    · by_cases hv : p.2 = none
      · rw [if_pos (.inr hv)] at h
        cases h
        rw [rd_bad hM (by omega) (by rw [dp.wr, hv]; rfl)]
        exact ⟨_, rfl⟩
      · rw [if_neg (fun z => z.elim hM hv)] at h
        have rr : f_writes_whole [tx p.1] = some (.v (.bl true)) := by
          rw [dp.wr]
          cases hp : p.2 with
          | none => exact absurd hp hv
          | some i => rfl
        rw [rd_ok hM (by omega) rr, fstep_nx]
        exact rd_go_x M r (n + 1) j _ _ (by omega) (fun q hq => hd q (List.mem_cons_of_mem _ hq)) h
theorem rd_go_n {T L : D} (M : Int) : ∀ (ps : List WP) (n : Nat) (s3 s4 : Slot), 0 < n → (∀ p ∈ ps, DW p.1 p.2) → scan41 M (n : Int) ps = none →
    ∃ s3' s4', forGo (.tu [3, 4]) w_deed_read_0 [.sh T, .sh L, .sh (.int (M - 1)), s3, s4, .un] (enD n (txs ps)) = some (.nx [.sh T, .sh L, .sh (.int (M - 1)), s3', s4', .un])
  | [], n, s3, s4, _, _, h => ⟨s3, s4, rfl⟩
  | p :: r, n, s3, s4, n0, hd, h => by
    have e : scan41 M (n : Int) (p :: r) = if M ≤ (n : Int) ∨ p.2 = none then some (n : Int) else scan41 M ((n : Int) + 1) r := rfl
    rw [e] at h
    have dp := hd p (List.mem_cons_self ..)
    have en : enD n (txs (p :: r)) = .tup [.int (n : Int), tx p.1] :: enD (n + 1) (txs r) := rfl
    have st : Tg.set (.tu [3, 4]) (.tup [.int (n : Int), tx p.1]) [Slot.sh T, .sh L, .sh (.int (M - 1)), s3, s4, .un] = some [.sh T, .sh L, .sh (.int (M - 1)), .sh (.int (n : Int)), .sh (tx p.1), .un] := rfl
    rw [en, for_c, st, fset_s]
    by_cases hM : M ≤ (n : Int)
    · rw [if_pos (.inl hM)] at h
      cases h
    · by_cases hv : p.2 = none
      · rw [if_pos (.inr hv)] at h
        cases h
      · rw [if_neg (fun z => z.elim hM hv)] at h
        have rr : f_writes_whole [tx p.1] = some (.v (.bl true)) := by
          rw [dp.wr]
          cases hp : p.2 with
          | none => exact absurd hp hv
          | some i => rfl
        rw [rd_ok hM (by omega) rr, fstep_nx]
        exact rd_go_n M r (n + 1) _ _ (by omega) (fun q hq => hd q (List.mem_cons_of_mem _ hq)) h
theorem scan_len {M : Int} : ∀ {ps : List WP} {k : Int}, scan41 M k ps = none → ps = [] ∨ k + ps.length ≤ M
  | [], k, _ => .inl rfl
  | p :: r, k, h => by
    have e : scan41 M k (p :: r) = if M ≤ k ∨ p.2 = none then some k else scan41 M (k + 1) r := rfl
    rw [e] at h
    by_cases hm : M ≤ k ∨ p.2 = none
    · rw [if_pos hm] at h; cases h
    · rw [if_neg hm] at h
      have hk : ¬ M ≤ k := fun z => hm (.inl z)
      rw [List.length_cons]
      rcases scan_len h with rfl | h2
      · exact .inr (by simp only [List.length_nil]; omega)
      · exact .inr (by omega)
theorem scan_all {M : Int} : ∀ {ps : List WP} {k : Int}, scan41 M k ps = none → ∃ is : List Int, ps.map (·.2) = is.map some
  | [], k, _ => ⟨[], rfl⟩
  | p :: r, k, h => by
    have e : scan41 M k (p :: r) = if M ≤ k ∨ p.2 = none then some k else scan41 M (k + 1) r := rfl
    rw [e] at h
    by_cases hm : M ≤ k ∨ p.2 = none
    · rw [if_pos hm] at h; cases h
    · rw [if_neg hm] at h
      obtain ⟨is, hi⟩ := scan_all h
      cases hp : p.2 with
      | none => exact absurd (.inr hp) hm
      | some i => exact ⟨i :: is, by rw [List.map_cons, List.map_cons, hp, hi]⟩
theorem seq_go {F G : Sm} {env env' : En} (h : F env = some (.nx env')) : cSeq F G env = G env' := by
  rw [seq_e, h, seq_nx]
theorem seq_out {F G : Sm} {env : En} {u : Vn} (h : F env = some (.rt u)) : cSeq F G env = some (.rt u) := by
  rw [seq_e, h, seq_rt]
theorem seq_xx {F G : Sm} {env env' : En} {d : D} (h : F env = some (.x d env')) : cSeq F G env = some (.x d env') := by
  rw [seq_e, h, seq_x]
noncomputable abbrev du1 : Sm := (cIf [] (tBl (cOp notInD (cOp ixD (vr 0) (cC (.int 0))) (cTup [(cC (.str "turn")), (cC (.str "half")), (cC (.str "mirror"))]))) (cRet [] (cTup [(cLst [(cC (.str "NoText"))]), (cC (.int 0))])) cNil)
noncomputable abbrev du2 : Sm := (cSet 1 [] (cOp subD (cC (.int 5)) (cCB intC [(cOp neD (cOp ixD (vr 0) (cC (.int 0))) (cC (.str "turn")))])))
noncomputable abbrev du3 : Sm := (cFor [] (iRange2 (cC (.int 1)) (cCB lenC [(vr 0)])) (.nm 2) w__law_due_0)
noncomputable abbrev du4 : Sm := (cIf [] (tBl (cOp ltD (cCB lenC [(vr 0)]) (vr 1))) (cRet [] (cTup [(cLst [(cC (.str "NoText"))]), (cCB lenC [(vr 0)])])) cNil)
noncomputable abbrev du5 : Sm := (cIf [] (tVal (cCB allC [(cLc (iSeq (cSl (vr 0) (.at (cC (.int 1))) .no)) [3] (.nm 3) tYes' e__law_due_0)])) (cRet [] (cTup [(cLst [(cC (.str "Nought"))]), (cUn negD (cC (.int 1)))])) cNil)
noncomputable abbrev du6 : Sm := (cRet [] (cC .non))
theorem b__law_due_eq : b__law_due = (cSeq du1 (cSeq du2 (cSeq du3 (cSeq du4 (cSeq du5 du6))))) := rfl
abbrev htup : D := .tup [.str "turn", .str "half", .str "mirror"]
theorem head_in {w : List Nat} (hw : ∀ d ∈ w, d < 1114112) : notInD (tx w) htup = some (.v (.bl (!(decide (wTurn = w) || (decide (wHalf = w) || (decide (wMirr = w) || false)))))) := by
  have e : notInD (tx w) htup = (if D.sh 60 (tx w) && D.shs 59 [tx wTurn, tx wHalf, tx wMirr] then some ([tx wTurn, tx wHalf, tx wMirr].any fun z => D.eqv z (tx w)) else none).map fun b => .v (.bl (!b)) := rfl
  have s : D.shs 59 [tx wTurn, tx wHalf, tx wMirr] = true := by kernel_rfl
  have a : ([tx wTurn, tx wHalf, tx wMirr].any fun z => D.eqv z (tx w)) = (D.eqv (tx wTurn) (tx w) || (D.eqv (tx wHalf) (tx w) || (D.eqv (tx wMirr) (tx w) || false))) := rfl
  rw [e, sh_S hw, s, a, eqv_S, eqv_S, eqv_S]
  rfl
section
variable {L : List D} {w : D} {m M : Int}
theorem du_1 (x0 : ixD (.lst L) (.int 0) = some (.v w)) (n1 : notInD w htup = some (.v (.bl false))) : du1 [.sh (.lst L), .un, .un, .un] = some (.nx [.sh (.lst L), .un, .un, .un]) := by
  unfold du1
  wp_walk using x0, n1
theorem du_1x (x0 : ixD (.lst L) (.int 0) = some (.v w)) (n1 : notInD w htup = some (.v (.bl true))) : du1 [.sh (.lst L), .un, .un, .un] = some (.rt (.v (.tup [.lst [.str "NoText"], .int 0]))) := by
  unfold du1
  wp_walk using x0, n1
theorem du_2t (x0 : ixD (.lst L) (.int 0) = some (.v w)) (n1 : neD w (.str "turn") = some (.v (.bl false))) : du2 [.sh (.lst L), .un, .un, .un] = some (.nx [.sh (.lst L), .sh (.int 5), .un, .un]) := by
  have i0 : intC [.bl false] = some (.v (.int 0)) := rfl
  have i1 : intC [.bl true] = some (.v (.int 1)) := rfl
  unfold du2
  wp_walk using x0, n1, i0, i1
theorem du_2h (x0 : ixD (.lst L) (.int 0) = some (.v w)) (n1 : neD w (.str "turn") = some (.v (.bl true))) : du2 [.sh (.lst L), .un, .un, .un] = some (.nx [.sh (.lst L), .sh (.int 4), .un, .un]) := by
  have i0 : intC [.bl false] = some (.v (.int 0)) := rfl
  have i1 : intC [.bl true] = some (.v (.int 1)) := rfl
  unfold du2
  wp_walk using x0, n1, i0, i1
theorem du_3 {n : Nat} (ln : lenC [.lst L] = some (.v (.int m))) (hm : rgOk m = true) (mn : (m - 1).toNat = n) : du3 [.sh (.lst L), .sh (.int M), .un, .un] = forGo (.nm 2) w__law_due_0 [.sh (.lst L), .sh (.int M), .un, .un] (rgD 1 n) := by
  have r1 : rgOk 1 = true := by decide
  unfold du3
  rw [for_e]
  have i : iRange2 (cC (.int 1)) (cCB lenC [(vr 0)]) (mask [] [Slot.sh (.lst L), .sh (.int M), .un, .un]) = some (.ok (rgD 1 n) false) := by
    have g : rg2 [.int 1, .int m] = some (.ok (rgD 1 n) false) := by
      have e : rg2 [.int 1, .int m] = if rgOk 1 && rgOk m then some (.ok (rgD 1 (m - 1).toNat) false) else none := rfl
      rw [e, r1, hm, mn]
      rfl
    wp_walk using ln, g
  rw [i]
  rfl
theorem du_4x {s2 : Slot} (ln : lenC [.lst L] = some (.v (.int m))) (h : m < M) : du4 [.sh (.lst L), .sh (.int M), s2, .un] = some (.rt (.v (.tup [.lst [.str "NoText"], .int m]))) := by
  unfold du4
  cases s2 <;> wp_walk using ln, h
theorem du_4 {s2 : Slot} (ln : lenC [.lst L] = some (.v (.int m))) (h : ¬ m < M) : du4 [.sh (.lst L), .sh (.int M), s2, .un] = some (.nx [.sh (.lst L), .sh (.int M), s2, .un]) := by
  unfold du4
  cases s2 <;> wp_walk using ln, h
end
section
variable {w w1 w2 w3 w4 : D} {M : Int} {b1 b2 b3 b4 : Bool}
theorem all3 : allC [.lst [.bl b1, .bl b2, .bl b3]] = some (.v (.bl (b1 && (b2 && (b3 && true))))) := rfl
theorem all4 : allC [.lst [.bl b1, .bl b2, .bl b3, .bl b4]] = some (.v (.bl (b1 && (b2 && (b3 && (b4 && true)))))) := rfl
theorem du_5_3 {s2 : Slot} {b : Bool} (q1 : eqD w1 (.str "0") = some (.v (.bl b1))) (q2 : eqD w2 (.str "0") = some (.v (.bl b2))) (q3 : eqD w3 (.str "0") = some (.v (.bl b3))) (hb : (b1 && (b2 && (b3 && true))) = b) :
    du5 [.sh (.lst [w, w1, w2, w3]), .sh (.int M), s2, .un] = if b then some (.rt (.v (.tup [.lst [.str "Nought"], .int (-1)]))) else some (.nx [.sh (.lst [w, w1, w2, w3]), .sh (.int M), s2, .un]) := by
  have al := all3 (b1 := b1) (b2 := b2) (b3 := b3)
  rw [hb] at al
  unfold du5 e__law_due_0
  cases b <;> cases s2 <;> wp_walk using q1, q2, q3, al, cutG_drop
theorem du_5_4 {s2 : Slot} {b : Bool} (q1 : eqD w1 (.str "0") = some (.v (.bl b1))) (q2 : eqD w2 (.str "0") = some (.v (.bl b2))) (q3 : eqD w3 (.str "0") = some (.v (.bl b3))) (q4 : eqD w4 (.str "0") = some (.v (.bl b4))) (hb : (b1 && (b2 && (b3 && (b4 && true)))) = b) :
    du5 [.sh (.lst [w, w1, w2, w3, w4]), .sh (.int M), s2, .un] = if b then some (.rt (.v (.tup [.lst [.str "Nought"], .int (-1)]))) else some (.nx [.sh (.lst [w, w1, w2, w3, w4]), .sh (.int M), s2, .un]) := by
  have al := all4 (b1 := b1) (b2 := b2) (b3 := b3) (b4 := b4)
  rw [hb] at al
  unfold du5 e__law_due_0
  cases b <;> cases s2 <;> wp_walk using q1, q2, q3, q4, al, cutG_drop
end
theorem dec_zero {i : Int} : decL i = [48] ↔ i = 0 := by
  constructor
  · intro h
    obtain ⟨c, l, e, hc⟩ := num_cons i.natAbs
    unfold decL at h
    rw [e] at h
    split at h
    · have := (List.cons.inj h).1
      omega
    · have := hc (List.cons.inj h).1
      omega
  · intro h
    subst h
    exact dec_closed.1
theorem eq_zero (i : Int) : eqD (tx (decL i)) (.str "0") = some (.v (.bl (decide (i = 0)))) := by
  have z48 : ∀ d ∈ [48], d < 1114112 := by decide
  have e : eqD (tx (decL i)) (.str "0") = eqD (tx (decL i)) (tx [48]) := rfl
  rw [e, eqD_S (dec_small i) z48]
  simp only [dec_zero]
noncomputable abbrev rd1 : Sm := (cSet 1 [] (cM1 splitD (vr 0) (cC (.str " "))))
noncomputable abbrev rd2 : Sm := (cIf [1] (tBl (cNotKf kt_COUNTS (cOp ixD (vr 1) (cC (.int 0))))) (cRaiseF "NoText" "at" [] (cC (.int 0))) cNil)
noncomputable abbrev rd3 : Sm := (cSet 2 [1] (cIxK kt_COUNTS (cOp ixD (vr 1) (cC (.int 0)))))
noncomputable abbrev rd4 : Sm := (cFor [1] (iEnA [(vr 1)]) (.tu [3, 4]) w_deed_read_0)
noncomputable abbrev rd5 : Sm := (cIf [1] (tBl (cOp leD (cCB lenC [(vr 1)]) (vr 2))) (cRaiseF "NoText" "at" [1] (cCB lenC [(vr 1)])) cNil)
noncomputable abbrev rd6 : Sm := (cSeq (cSet 5 [1] (cCB tupleC [(cLc (iSeq (cSl (vr 1) (.at (cC (.int 1))) .no)) [4] (.nm 4) tYes' e_deed_read_0)]))
  (cSeq (cIf [1] (tBl (cOp eqD (cOp ixD (vr 1) (cC (.int 0))) (cC (.str "turn")))) (cRet [] (cMake "Turn" "kept" f_Turn___init__ [(vr 5)])) cNil)
  (cSeq (cIf [1] (tBl (cOp eqD (cOp ixD (vr 1) (cC (.int 0))) (cC (.str "half")))) (cRet [] (cMake "HalfTurn" "kept" f_HalfTurn___init__ [(vr 5)])) cNil)
  (cRet [] (cMake "Mirror" "kept" f_Mirror___init__ [(vr 5)])))))
theorem b_deed_read_eq : b_deed_read = (cSeq rd1 (cSeq rd2 (cSeq rd3 (cSeq rd4 (cSeq rd5 rd6))))) := rfl
section
variable {L : List D} {T : Str} {w : Str} {m M : Int}
theorem rd_1 (sp : splitD T (.str " ") = some (.n (.lst L))) : rd1 [.sh (.str T), .un, .un, .un, .un, .un] = some (.nx [.sh (.str T), .own (.lst L), .un, .un, .un, .un]) := by
  unfold rd1
  by_cases f : D.flats L = true <;> wp_walk using sp, f
theorem rd_2 (x0 : ixD (.lst L) (.int 0) = some (.v (.str w))) {i : Int} (lk : List.lookup w kt_COUNTS = some i) : rd2 [.sh (.str T), .own (.lst L), .un, .un, .un, .un] = some (.nx [.sh (.str T), .own (.lst L), .un, .un, .un, .un]) := by
  unfold rd2
  wp_walk using x0, lk
theorem rd_2x (x0 : ixD (.lst L) (.int 0) = some (.v (.str w))) (lk : List.lookup w kt_COUNTS = none) : ∃ e', rd2 [.sh (.str T), .own (.lst L), .un, .un, .un, .un] = some (.x (.exn "NoText" [("at", .int 0)]) e') := by
  refine ⟨[.sh (.str T), .own (.lst L), .un, .un, .un, .un], ?_⟩
  unfold rd2
  wp_walk using x0, lk
theorem rd_3 (x0 : ixD (.lst L) (.int 0) = some (.v (.str w))) {i : Int} (lk : List.lookup w kt_COUNTS = some i) : rd3 [.sh (.str T), .own (.lst L), .un, .un, .un, .un] = some (.nx [.sh (.str T), .own (.lst L), .sh (.int i), .un, .un, .un]) := by
  unfold rd3
  wp_walk using x0, lk, Option.map_some
theorem rd_4 {i : Int} : rd4 [.sh (.str T), .own (.lst L), .sh (.int i), .un, .un, .un] = forGo (.tu [3, 4]) w_deed_read_0 [.sh (.str T), .sh (.lst L), .sh (.int i), .un, .un, .un] (enD 0 L) := by
  unfold rd4
  rw [for_e]
  have j : iEnA [(vr 1)] (mask [1] [Slot.sh (.str T), .own (.lst L), .sh (.int i), .un, .un, .un]) = some (.ok (enD 0 L) true) := rfl
  rw [j]
  rfl
theorem rd_5x {i : Int} {s3 s4 : Slot} (ln : lenC [.lst L] = some (.v (.int m))) (h : m ≤ i) : ∃ e', rd5 [.sh (.str T), .sh (.lst L), .sh (.int i), s3, s4, .un] = some (.x (.exn "NoText" [("at", .int m)]) e') := by
  refine ⟨[.sh (.str T), .sh (.lst L), .sh (.int i), s3, s4, .un], ?_⟩
  unfold rd5
  cases s3 <;> cases s4 <;> wp_walk using ln, h
end
section
variable {w0 : List Nat} {ps : List WP} {M : Int}
/-- of a word that begins a deed: so many words in all -/
inductive Head : List Nat → Int → Prop where
  | turn : Head wTurn 5
  | half : Head wHalf 4
  | mirr : Head wMirr 4
theorem Head.pos {w : List Nat} (h : Head w M) : 4 ≤ M ∧ M ≤ 5 := by cases h <;> decide
theorem Head.lk {w : List Nat} (h : Head w M) : List.lookup (SX.S w) kt_COUNTS = some (M - 1) := by
  cases h
  · exact lk_kt_COUNTS_turn
  · exact lk_kt_COUNTS_half
  · exact lk_kt_COUNTS_mirror
theorem head_or (w : List Nat) : (∃ M, Head w M) ∨ (¬ wTurn = w ∧ ¬ wHalf = w ∧ ¬ wMirr = w) := by
  by_cases h1 : wTurn = w
  · exact .inl ⟨5, h1 ▸ .turn⟩
  · by_cases h2 : wHalf = w
    · exact .inl ⟨4, h2 ▸ .half⟩
    · by_cases h3 : wMirr = w
      · exact .inl ⟨4, h3 ▸ .mirr⟩
      · exact .inr ⟨h1, h2, h3⟩
theorem lk_none {w : List Nat} (h1 : ¬ wTurn = w) (h2 : ¬ wHalf = w) (h3 : ¬ wMirr = w) : List.lookup (SX.S w) kt_COUNTS = none := by
  have ne : ∀ {a : List Nat}, ¬ a = w → (SX.S w == SX.S a) = false := fun {a} h => by
    rw [SX.S_beq_eq]
    exact decide_eq_false fun z => h z.symm
  have e : kt_COUNTS = [(SX.S wTurn, 4), (SX.S wHalf, 3), (SX.S wMirr, 3)] := rfl
  rw [e, List.lookup_cons, ne h1, List.lookup_cons, ne h2, List.lookup_cons, ne h3]
  rfl
theorem Head.small {w : List Nat} (h : Head w M) : ∀ d ∈ w, d < 1114112 := by cases h <;> decide
theorem txs_len (l : List WP) : (txs l).length = l.length := List.length_map ..
theorem x0_e : ixD (.lst (txs ((w0, none) :: ps))) (.int 0) = some (.v (tx w0)) := txs_at [] (w0, none) ps
/-- the word 'no deed', as both look at it -/
theorem due_no {v : Option Int} (hw : ∀ d ∈ w0, d < 1114112) (h1 : ¬ wTurn = w0) (h2 : ¬ wHalf = w0) (h3 : ¬ wMirr = w0) : f__law_due [.lst (txs ((w0, v) :: ps))] = some (.v (.tup [.lst [.str "NoText"], .int 0])) := by
  have x0 : ixD (.lst (txs ((w0, v) :: ps))) (.int 0) = some (.v (tx w0)) := txs_at [] (w0, v) ps
  have n1 : notInD (tx w0) htup = some (.v (.bl true)) := by
    rw [head_in hw, decide_eq_false h1, decide_eq_false h2, decide_eq_false h3]
    rfl
  have d := du_1x x0 n1
  have d := seq_out (G := cSeq du2 (cSeq du3 (cSeq du4 (cSeq du5 du6)))) d
  rw [← b__law_due_eq] at d
  generalize txs ((w0, v) :: ps) = L at *
  unfold f__law_due
  wp_walk using d
theorem read_no {v : Option Int} {T : Str} (sp : splitD T (.str " ") = some (.n (.lst (txs ((w0, v) :: ps))))) (h1 : ¬ wTurn = w0) (h2 : ¬ wHalf = w0) (h3 : ¬ wMirr = w0) : f_deed_read [.str T] = some (.x (.exn "NoText" [("at", .int 0)])) := by
  have x0 : ixD (.lst (txs ((w0, v) :: ps))) (.int 0) = some (.v (.str (SX.S w0))) := txs_at [] (w0, v) ps
  obtain ⟨e', r2⟩ := rd_2x (T := T) x0 (lk_none h1 h2 h3)
  have b : b_deed_read [.sh (.str T), .un, .un, .un, .un, .un] = some (.x (.exn "NoText" [("at", .int 0)]) e') := by
    rw [b_deed_read_eq, seq_go (rd_1 sp), seq_xx r2]
  unfold f_deed_read
  wp_walk using b
theorem due_12 {v : Option Int} (h : Head w0 M) : b__law_due [.sh (.lst (txs ((w0, v) :: ps))), .un, .un, .un] = cSeq du3 (cSeq du4 (cSeq du5 du6)) [.sh (.lst (txs ((w0, v) :: ps))), .sh (.int M), .un, .un] := by
  have x0 : ixD (.lst (txs ((w0, v) :: ps))) (.int 0) = some (.v (tx w0)) := txs_at [] (w0, v) ps
  have n1 : notInD (tx w0) htup = some (.v (.bl false)) := by
    rw [head_in h.small]
    cases h <;> rfl
  rw [b__law_due_eq, seq_go (du_1 x0 n1)]
  cases h with
  | turn =>
    have n2 : neD (tx wTurn) (.str "turn") = some (.v (.bl false)) := by kernel_rfl
    rw [seq_go (du_2t x0 n2)]
  | half =>
    have n2 : neD (tx wHalf) (.str "turn") = some (.v (.bl true)) := by kernel_rfl
    rw [seq_go (du_2h x0 n2)]
  | mirr =>
    have n2 : neD (tx wMirr) (.str "turn") = some (.v (.bl true)) := by kernel_rfl
    rw [seq_go (du_2h x0 n2)]
theorem read_123 {v : Option Int} {T : Str} (h : Head w0 M) (sp : splitD T (.str " ") = some (.n (.lst (txs ((w0, v) :: ps))))) : b_deed_read [.sh (.str T), .un, .un, .un, .un, .un] = cSeq rd4 (cSeq rd5 rd6) [.sh (.str T), .own (.lst (txs ((w0, v) :: ps))), .sh (.int (M - 1)), .un, .un, .un] := by
  have x0 : ixD (.lst (txs ((w0, v) :: ps))) (.int 0) = some (.v (.str (SX.S w0))) := txs_at [] (w0, v) ps
  rw [b_deed_read_eq, seq_go (rd_1 sp), seq_go (rd_2 x0 h.lk), seq_go (rd_3 x0 h.lk)]
theorem ln_e {v : Option Int} : lenC [.lst (txs ((w0, v) :: ps))] = some (.v (.int ((ps.length + 1 : Nat) : Int))) := by
  rw [len_lst, txs_len, List.length_cons]
theorem rg_ok {n : Nat} (h : n ≤ 100) : rgOk (n : Int) = true := by
  unfold rgOk
  exact decide_eq_true ⟨by omega, by omega⟩
theorem due_scan {v : Option Int} {j : Int} (h : Head w0 M) (hd : ∀ p ∈ ps, DW p.1 p.2) (hl : ps.length ≤ 50) (sc : scan41 M 1 ps = some j) : f__law_due [.lst (txs ((w0, v) :: ps))] = some (.v (.tup [.lst [.str "NoText"], .int j])) := by
  have g := due_go_x M ps [(w0, v)] j .un hd sc
  have d3 := (du_3 (M := M) (ln_e (w0 := w0) (ps := ps) (v := v)) (rg_ok (by omega)) (n := ps.length) (by omega)).trans g
  have b := due_12 (ps := ps) (v := v) h
  rw [seq_out d3] at b
  generalize txs ((w0, v) :: ps) = L at *
  unfold f__law_due
  wp_walk using b
theorem read_scan {v : Option Int} {T : Str} {j : Int} (h : Head w0 M) (hd : ∀ p ∈ ps, DW p.1 p.2) (sc : scan41 M 1 ps = some j) (sp : splitD T (.str " ") = some (.n (.lst (txs ((w0, v) :: ps))))) : f_deed_read [.str T] = some (.x (.exn "NoText" [("at", .int j)])) := by
  obtain ⟨e', g⟩ := rd_go_x (T := .str T) (L := .lst (txs ((w0, v) :: ps))) M ps 1 j (.sh (.int 0)) (.sh (tx w0)) (by omega) hd sc
  have r4 : rd4 [.sh (.str T), .own (.lst (txs ((w0, v) :: ps))), .sh (.int (M - 1)), .un, .un, .un] = some (.x (.exn "NoText" [("at", .int j)]) e') := by
    have en : enD 0 (txs ((w0, v) :: ps)) = .tup [.int 0, tx w0] :: enD 1 (txs ps) := rfl
    have st : Tg.set (.tu [3, 4]) (.tup [.int 0, tx w0]) [Slot.sh (.str T), .sh (.lst (txs ((w0, v) :: ps))), .sh (.int (M - 1)), .un, .un, .un] = some [.sh (.str T), .sh (.lst (txs ((w0, v) :: ps))), .sh (.int (M - 1)), .sh (.int 0), .sh (tx w0), .un] := rfl
    rw [rd_4, en, for_c, st, fset_s, rd_0 (by have := h.pos; omega), fstep_nx]
    exact g
  have b := read_123 h sp
  rw [seq_xx r4] at b
  unfold f_deed_read
  wp_walk using b
theorem due_short {v : Option Int} (h : Head w0 M) (hd : ∀ p ∈ ps, DW p.1 p.2) (hl : ps.length ≤ 50) (sc : scan41 M 1 ps = none) (sh : ((ps.length + 1 : Nat) : Int) < M) : f__law_due [.lst (txs ((w0, v) :: ps))] = some (.v (.tup [.lst [.str "NoText"], .int ((ps.length + 1 : Nat) : Int)])) := by
  obtain ⟨s2, g⟩ := due_go_n M ps [(w0, v)] .un hd sc
  have ln := ln_e (w0 := w0) (ps := ps) (v := v)
  have d3 := (du_3 (M := M) ln (rg_ok (by omega)) (n := ps.length) (by omega)).trans g
  have b := due_12 (ps := ps) (v := v) h
  have d4 := du_4x (M := M) (s2 := s2) ln sh
  have d3 : du3 [.sh (.lst (txs ((w0, v) :: ps))), .sh (.int M), .un, .un] = some (.nx [.sh (.lst (txs ((w0, v) :: ps))), .sh (.int M), s2, .un]) := d3
  rw [seq_go d3, seq_out d4] at b
  generalize txs ((w0, v) :: ps) = L at *
  generalize ((ps.length + 1 : Nat) : Int) = n at *
  unfold f__law_due
  wp_walk using b
theorem read_4 {v : Option Int} {T : Str} (h : Head w0 M) (hd : ∀ p ∈ ps, DW p.1 p.2) (sc : scan41 M 1 ps = none) : ∃ s3 s4, rd4 [.sh (.str T), .own (.lst (txs ((w0, v) :: ps))), .sh (.int (M - 1)), .un, .un, .un] = some (.nx [.sh (.str T), .sh (.lst (txs ((w0, v) :: ps))), .sh (.int (M - 1)), s3, s4, .un]) := by
  obtain ⟨s3, s4, g⟩ := rd_go_n (T := .str T) (L := .lst (txs ((w0, v) :: ps))) M ps 1 (.sh (.int 0)) (.sh (tx w0)) (by omega) hd sc
  refine ⟨s3, s4, ?_⟩
  have en : enD 0 (txs ((w0, v) :: ps)) = .tup [.int 0, tx w0] :: enD 1 (txs ps) := rfl
  have st : Tg.set (.tu [3, 4]) (.tup [.int 0, tx w0]) [Slot.sh (.str T), .sh (.lst (txs ((w0, v) :: ps))), .sh (.int (M - 1)), .un, .un, .un] = some [.sh (.str T), .sh (.lst (txs ((w0, v) :: ps))), .sh (.int (M - 1)), .sh (.int 0), .sh (tx w0), .un] := rfl
  rw [rd_4, en, for_c, st, fset_s, rd_0 (by have := h.pos; omega), fstep_nx]
  exact g
theorem read_short {v : Option Int} {T : Str} (h : Head w0 M) (hd : ∀ p ∈ ps, DW p.1 p.2) (sc : scan41 M 1 ps = none) (sh : ((ps.length + 1 : Nat) : Int) < M) (sp : splitD T (.str " ") = some (.n (.lst (txs ((w0, v) :: ps))))) : f_deed_read [.str T] = some (.x (.exn "NoText" [("at", .int ((ps.length + 1 : Nat) : Int))])) := by
  obtain ⟨s3, s4, r4⟩ := read_4 (v := v) (T := T) h hd sc
  obtain ⟨e', r5⟩ := rd_5x (T := T) (s3 := s3) (s4 := s4) (i := M - 1) (ln_e (w0 := w0) (ps := ps) (v := v)) (by omega)
  have b := read_123 h sp
  rw [seq_go r4, seq_xx r5] at b
  generalize ((ps.length + 1 : Nat) : Int) = n at *
  unfold f_deed_read
  wp_walk using b
end
theorem as_told_zero4 : f_as_told [Q.dt ⟨0, 0, 0, 0⟩] = some (.x (.exn "Nought" [])) := by
  have dv : f_divisor_of [Q.dt ⟨0, 0, 0, 0⟩] = some (.v (.int 0)) := divisor_t [0, 0, 0, 0]
  unfold f_as_told b_as_told
  wp_walk using dv
theorem as_told_zero3 : f_as_told [V3.tp ⟨0, 0, 0⟩] = some (.x (.exn "Nought" [])) := by
  have dv : f_divisor_of [V3.tp ⟨0, 0, 0⟩] = some (.v (.int 0)) := divisor_t [0, 0, 0]
  unfold f_as_told b_as_told
  wp_walk using dv
theorem z40 : F40 0 := by unfold F40; exact Nat.pow_pos (by decide)
theorem turn_nought : f_deed_read [.str (deedT wTurn [0, 0, 0, 0])] = some (.x (.exn "Nought" [])) := by
  have h : Fq ⟨0, 0, 0, 0⟩ := ⟨z40, z40, z40, z40⟩
  have sp := deed_split (w := wTurn) (by decide) (by decide) h.all (by simp)
  have sp' : splitD (deedT wTurn [0, 0, 0, 0]) (.str " ") = some (.n (.lst [.str "turn", tx (decL 0), tx (decL 0), tx (decL 0), tx (decL 0)])) := sp
  have w1 := writes_e z40.len.1
  have i1 := int_dec z40
  have tr := as_told_zero4
  have ed : D.tup [.int 0, .int 0, .int 0, .int 0] = Q.dt ⟨0, 0, 0, 0⟩ := rfl
  have ti : f_Turn___init__ [Q.dt ⟨0, 0, 0, 0⟩] = some (.x (.exn "Nought" [])) := by
    unfold f_Turn___init__ b_Turn___init__
    wp_walk using tr
  unfold f_deed_read b_deed_read w_deed_read_0 e_deed_read_0
  generalize tx (decL 0) = w1 at *
  wp_walk using sp', lk_kt_COUNTS_turn, Option.map_some, w1, i1, ti, ed, tt_eq, cutG_drop
theorem half_nought : f_deed_read [.str (deedT wHalf [0, 0, 0])] = some (.x (.exn "Nought" [])) := by
  have h : Fv ⟨0, 0, 0⟩ := ⟨z40, z40, z40⟩
  have sp := deed_split (w := wHalf) (by decide) (by decide) h.all (by simp)
  have sp' : splitD (deedT wHalf [0, 0, 0]) (.str " ") = some (.n (.lst [.str "half", tx (decL 0), tx (decL 0), tx (decL 0)])) := sp
  have w1 := writes_e z40.len.1
  have i1 := int_dec z40
  have tr := as_told_zero3
  have ed : D.tup [.int 0, .int 0, .int 0] = V3.tp ⟨0, 0, 0⟩ := rfl
  have ti : f_HalfTurn___init__ [V3.tp ⟨0, 0, 0⟩] = some (.x (.exn "Nought" [])) := by
    unfold f_HalfTurn___init__ b_HalfTurn___init__
    wp_walk using tr
  unfold f_deed_read b_deed_read w_deed_read_0 e_deed_read_0
  generalize tx (decL 0) = w1 at *
  wp_walk using sp', lk_kt_COUNTS_half, Option.map_some, w1, i1, ti, ed, ht_eq, hh_eq, cutG_drop
theorem mirr_nought : f_deed_read [.str (deedT wMirr [0, 0, 0])] = some (.x (.exn "Nought" [])) := by
  have h : Fv ⟨0, 0, 0⟩ := ⟨z40, z40, z40⟩
  have sp := deed_split (w := wMirr) (by decide) (by decide) h.all (by simp)
  have sp' : splitD (deedT wMirr [0, 0, 0]) (.str " ") = some (.n (.lst [.str "mirror", tx (decL 0), tx (decL 0), tx (decL 0)])) := sp
  have w1 := writes_e z40.len.1
  have i1 := int_dec z40
  have tr := as_told_zero3
  have ed : D.tup [.int 0, .int 0, .int 0] = V3.tp ⟨0, 0, 0⟩ := rfl
  have ti : f_Mirror___init__ [V3.tp ⟨0, 0, 0⟩] = some (.x (.exn "Nought" [])) := by
    unfold f_Mirror___init__ b_Mirror___init__
    wp_walk using tr
  unfold f_deed_read b_deed_read w_deed_read_0 e_deed_read_0
  generalize tx (decL 0) = w1 at *
  wp_walk using sp', lk_kt_COUNTS_mirror, Option.map_some, w1, i1, ti, ed, mt_eq, mh_eq, cutG_drop
theorem ps_dec : ∀ {ps : List WP} {is : List Int}, (∀ p ∈ ps, DW p.1 p.2) → ps.map (·.2) = is.map some → ps = is.map (fun i => (decL i, some i)) ∧ ∀ i ∈ is, F40 i
  | [], [], _, _ => ⟨rfl, fun i hi => (nomatch hi)⟩
  | [], _ :: _, _, h => by cases h
  | _ :: _, [], _, h => by cases h
  | p :: r, i :: is, hd, h => by
    rw [List.map_cons, List.map_cons] at h
    obtain ⟨h1, h2⟩ := List.cons.inj h
    obtain ⟨i1, i2⟩ := ps_dec (fun q hq => hd q (List.mem_cons_of_mem _ hq)) h2
    obtain ⟨v1, v2⟩ := (hd p (List.mem_cons_self ..)).val i h1
    refine ⟨?_, fun k hk => ?_⟩
    · rw [List.map_cons, ← i1]
      obtain ⟨p1, p2⟩ := p
      dsimp only at v1 h1
      rw [v1, h1]
    · rcases List.mem_cons.1 hk with rfl | hk
      · exact v2
      · exact i2 k hk
/-! ### refused -/
theorem try2_x {t1 t2 : List (Str × Bool)} {Cs : List Str} {fld C : Str} {ie iy iz : Nat} {F : Sm} {env env' : En} {gs : List (Str × D)} (h : F env = some (.x (.exn C gs) env')) : cTry2 t1 t2 Cs fld ie iy iz F env = tryX2 t1 t2 Cs fld ie iy iz C gs env' := by
  unfold cTry2
  rw [h]
theorem try2_a {t1 t2 : List (Str × Bool)} {Cs : List Str} {fld C : Str} {ie iy iz : Nat} {env : En} {gs : List (Str × D)} {s : Slot} {d : D} (h1 : env[ie]? = some s) (h2 : t1.lookup C = some true) (h3 : Cs.contains C = true) (h4 : gs.lookup fld = some d) : tryX2 t1 t2 Cs fld ie iy iz C gs env = some (.nx (((env.set ie .un).set iy (.sh (.exn C gs))).set iz (.sh d))) := by
  unfold tryX2
  rw [h1]
  dsimp only
  rw [h2]
  dsimp only
  rw [if_pos h3, h4]
theorem try2_b {t1 t2 : List (Str × Bool)} {Cs : List Str} {fld C : Str} {ie iy iz : Nat} {env : En} {gs : List (Str × D)} {s : Slot} (h1 : env[ie]? = some s) (h2 : t1.lookup C = some false) (h3 : t2.lookup C = some true) : tryX2 t1 t2 Cs fld ie iy iz C gs env = some (.nx ((env.set ie .un).set iy (.sh (.exn C gs)))) := by
  unfold tryX2 tryX
  rw [h1]
  dsimp only
  rw [h2]
  dsimp only
  rw [h3]
theorem kinds_text (j : Int) : f__law_kinds [.exn "NoText" [("at", .int j)]] = some (.n (.lst [.str "NoText"])) := by
  unfold f__law_kinds b__law_kinds e__law_kinds_0
  wp_walk using lk_xb_NoSide_NoText, lk_xb_Nought_NoText, lk_xb_TooGreat_NoText, lk_xb_NoPrime_NoText, lk_xb_NoLine_NoText, lk_xb_NoText_NoText, lk_xb_NoOrder_NoText, lk_xb_Divided_NoText, lk_xb_NoTurn_NoText, lk_xb_NoName_NoText, lk_xb_SpaceError_NoText, lk_xb_ValueError_NoText
theorem kinds_nought : f__law_kinds [.exn "Nought" []] = some (.n (.lst [.str "Nought"])) := by
  unfold f__law_kinds b__law_kinds e__law_kinds_0
  wp_walk using lk_xb_NoSide_Nought, lk_xb_Nought_Nought, lk_xb_TooGreat_Nought, lk_xb_NoPrime_Nought, lk_xb_NoLine_Nought, lk_xb_NoText_Nought, lk_xb_NoOrder_Nought, lk_xb_Divided_Nought, lk_xb_NoTurn_Nought, lk_xb_NoName_Nought, lk_xb_SpaceError_Nought, lk_xb_ValueError_Nought
noncomputable abbrev rf3 : Sm := (cTry2 xc_NoText xc_Nought xf_at "at" 3 1 2 (cExpr [] (cCall f_deed_read [(vr 0)])))
noncomputable abbrev rf4 : Sm := (cSeq (cIf [1] (tOr' (tBl (cOp isD (vr 1) (cC .non))) (tNot' (tVal (cCall f__law_whole [(vr 2)])))) (cRet [] (cC .non)) cNil) (cRet [1] (cTup [(cCall f__law_kinds [(vr 1)]), (vr 2)])))
theorem b__law_refused_eq : b__law_refused = cSeq (cSet 1 [] (cC .non)) (cSeq (cSet 2 [] (cUn negD (cC (.int 1)))) (cSeq rf3 rf4)) := rfl
theorem ref_text {T : Str} {j : Int} (h : f_deed_read [.str T] = some (.x (.exn "NoText" [("at", .int j)]))) : f__law_refused [.str T] = some (.v (.tup [.lst [.str "NoText"], .int j])) := by
  have hf : D.flatX (.exn "NoText" [("at", .int j)]) = true := rfl
  have b : (cExpr [] (cCall f_deed_read [(vr 0)])) [.sh (.str T), .sh .non, .sh (.int (-1)), .un] = some (.x (.exn "NoText" [("at", .int j)]) [.sh (.str T), .sh .non, .sh (.int (-1)), .un]) := by
    wp_walk using h, hf
  have t : rf3 [.sh (.str T), .sh .non, .sh (.int (-1)), .un] = some (.nx [.sh (.str T), .sh (.exn "NoText" [("at", .int j)]), .sh (.int j), .un]) := by
    unfold rf3
    rw [try2_x b, try2_a (s := .un) (d := .int j) rfl lk_xc_NoText_NoText xfc_at_NoText rfl]
    rfl
  have s1 : cSet 1 [] (cC .non) [.sh (.str T), .un, .un, .un] = some (.nx [.sh (.str T), .sh .non, .un, .un]) := by wp_walk using h
  have s2 : cSet 2 [] (cUn negD (cC (.int 1))) [.sh (.str T), .sh .non, .un, .un] = some (.nx [.sh (.str T), .sh .non, .sh (.int (-1)), .un]) := by wp_walk using h
  have we := whole_e j
  have nn : isD (.exn "NoText" [("at", .int j)]) .non = some (.v (.bl false)) := rfl
  have k := kinds_text j
  have r : rf4 [.sh (.str T), .sh (.exn "NoText" [("at", .int j)]), .sh (.int j), .un] = some (.rt (.v (.tup [.lst [.str "NoText"], .int j]))) := by
    unfold rf4
    wp_walk using we, nn, k
  have b : b__law_refused [.sh (.str T), .un, .un, .un] = some (.rt (.v (.tup [.lst [.str "NoText"], .int j]))) := by
    rw [b__law_refused_eq, seq_go s1, seq_go s2, seq_go t, r]
  unfold f__law_refused
  wp_walk using b
theorem ref_nought {T : Str} (h : f_deed_read [.str T] = some (.x (.exn "Nought" []))) : f__law_refused [.str T] = some (.v (.tup [.lst [.str "Nought"], .int (-1)])) := by
  have hf : D.flatX (.exn "Nought" []) = true := rfl
  have b : (cExpr [] (cCall f_deed_read [(vr 0)])) [.sh (.str T), .sh .non, .sh (.int (-1)), .un] = some (.x (.exn "Nought" []) [.sh (.str T), .sh .non, .sh (.int (-1)), .un]) := by
    wp_walk using h, hf
  have t : rf3 [.sh (.str T), .sh .non, .sh (.int (-1)), .un] = some (.nx [.sh (.str T), .sh (.exn "Nought" []), .sh (.int (-1)), .un]) := by
    unfold rf3
    rw [try2_x b, try2_b (s := .un) rfl lk_xc_NoText_Nought lk_xc_Nought_Nought]
    rfl
  have s1 : cSet 1 [] (cC .non) [.sh (.str T), .un, .un, .un] = some (.nx [.sh (.str T), .sh .non, .un, .un]) := by wp_walk using h
  have s2 : cSet 2 [] (cUn negD (cC (.int 1))) [.sh (.str T), .sh .non, .un, .un] = some (.nx [.sh (.str T), .sh .non, .sh (.int (-1)), .un]) := by wp_walk using h
  have we := whole_e (-1)
  have nn : isD (.exn "Nought" []) .non = some (.v (.bl false)) := rfl
  have k := kinds_nought
  have r : rf4 [.sh (.str T), .sh (.exn "Nought" []), .sh (.int (-1)), .un] = some (.rt (.v (.tup [.lst [.str "Nought"], .int (-1)]))) := by
    unfold rf4
    wp_walk using we, nn, k
  have b : b__law_refused [.sh (.str T), .un, .un, .un] = some (.rt (.v (.tup [.lst [.str "Nought"], .int (-1)]))) := by
    rw [b__law_refused_eq, seq_go s1, seq_go s2, seq_go t, r]
  unfold f__law_refused
  wp_walk using b
theorem eq_same {s : D} {j : Int} (h1 : D.sh 58 s = true) (h2 : D.eqv s s = true) : eqD (.tup [.lst [s], .int j]) (.tup [.lst [s], .int j]) = some (.v (.bl true)) := by
  rw [eqD_tt]
  simp only [shs_cons, shs_nil, sh_lst, sh_int, h1, Bool.and_self, if_true, eqvs_cons, eqvs_nil, eqv_lst, h2, eqv_int, decide_true]
theorem eq_text (j : Int) : eqD (.tup [.lst [.str "NoText"], .int j]) (.tup [.lst [.str "NoText"], .int j]) = some (.v (.bl true)) := eq_same (by kernel_rfl) (by kernel_rfl)
theorem eq_nought (j : Int) : eqD (.tup [.lst [.str "Nought"], .int j]) (.tup [.lst [.str "Nought"], .int j]) = some (.v (.bl true)) := eq_same (by kernel_rfl) (by kernel_rfl)
theorem cut_to {α : Type} (l : List α) (n : Nat) : cutG l none (some (n : Int)) = l.take n := cutG_take l _ (by omega)
theorem cut_fro {α : Type} (l : List α) (n : Nat) : cutG l (some (n : Int)) none = l.drop n := cutG_drop l _ (by omega)
theorem changed_e {c : Int} {b : Nat} [hc : SzC c b] (hb : b ≤ 1500000) (ws : List (List Nat)) (hw : ∀ w ∈ ws, DWx w) (h0 : 0 < ws.length) (hn : ws.length ≤ 90) : ∃ ws' : List (List Nat), 0 < ws'.length ∧ ws'.length ≤ ws.length + 1 ∧ (∀ w ∈ ws', DWx w) ∧ f__law_changed [.lst (ws.map tx), .int c] = some (.n (.lst (ws'.map tx))) := by
  haveI := hc.mono hb
  obtain ⟨N, hN⟩ : ∃ N : Int, N = (ws.length : Int) := ⟨_, rfl⟩
  haveI : SzC N 20 := ⟨by omega⟩
  haveI : Ps N := ⟨by omega⟩
  have ln : lenC [.lst (ws.map tx)] = some (.v (.int N)) := by rw [len_lst, List.length_map, hN]
  have a0 : 0 ≤ c / 4 % N := Int.emod_nonneg _ (by omega)
  have a1 : c / 4 % N < N := Int.emod_lt_of_pos _ (by omega)
  obtain ⟨n, hn2⟩ : ∃ n : Nat, c / 4 % N = (n : Int) := ⟨(c / 4 % N).toNat, by omega⟩
  obtain ⟨A, hA⟩ : ∃ A : Int, A = (n : Int) := ⟨_, rfl⟩
  have hA2 : c / 4 % N = A := by rw [hA, hn2]
  haveI : SzC A 20 := ⟨by omega⟩
  have s1 : cutG (ws.map tx) none (some A) = (ws.take n).map tx := by rw [hA, cut_to, List.map_take]
  have s2 : cutG (ws.map tx) (some A) none = (ws.drop n).map tx := by rw [hA, cut_fro, List.map_drop]
  have s3 : cutG (ws.map tx) (some (A + 1)) none = (ws.drop (n + 1)).map tx := by
    rw [hA, show (n : Int) + 1 = ((n + 1 : Nat) : Int) by omega, cut_fro, List.map_drop]
  obtain ⟨w, od, dw⟩ := lodd_e (c := c / 32) (n := 1500000) (by decide)
  obtain ⟨v, hv, vm⟩ := tx_pick (l := ws) (i := A) (by omega) (by omega)
  have l1 : ((ws.take n).map tx).length ≤ 90 := by rw [List.length_map, List.length_take]; omega
  have l2 : ((ws.drop n).map tx).length ≤ 90 := by rw [List.length_map, List.length_drop]; omega
  have l3 : ((ws.drop (n + 1)).map tx).length ≤ 90 := by rw [List.length_map, List.length_drop]; omega
  have l4 : (ws.map tx).length ≤ 90 := by rw [List.length_map]; omega
  have tk : ∀ w ∈ ws.take n, DWx w := fun w h => hw w (List.mem_of_mem_take h)
  have dr : ∀ k, ∀ w ∈ ws.drop k, DWx w := fun k w h => hw w (List.mem_of_mem_drop h)
  have m0 := Int.emod_nonneg c (b := 4) (by decide)
  have m4 := Int.emod_lt_of_pos c (b := 4) (by decide)
  unfold f__law_changed b__law_changed
  by_cases h1 : c % 4 = 0
  · refine ⟨ws.take n ++ ([w] ++ ws.drop (n + 1)), by simp only [List.length_append, List.length_singleton]; omega, by simp only [List.length_append, List.length_take, List.length_drop, List.length_singleton]; omega, fun x hx => ?_, ?_⟩
    · rcases List.mem_append.1 hx with h | h
      · exact tk x h
      · rcases List.mem_append.1 h with h | h
        · rw [List.mem_singleton.1 h]; exact dw
        · exact dr _ x h
    · rw [List.map_append, List.map_append, show [w].map tx = [tx w] from rfl]
      have z1 : addD (.lst ((ws.take n).map tx)) (.lst [tx w]) = some (.n (.lst ((ws.take n).map tx ++ [tx w]))) := by
        rw [addD_l, if_pos]
        simp only [List.length_singleton]; omega
      have z2 : addD (.lst ((ws.take n).map tx ++ [tx w])) (.lst ((ws.drop (n + 1)).map tx)) = some (.n (.lst ((ws.take n).map tx ++ ([tx w] ++ (ws.drop (n + 1)).map tx)))) := by
        rw [addD_l, if_pos, List.append_assoc]
        simp only [List.length_append, List.length_singleton]; omega
      generalize (ws.take n).map tx = P1 at *
      generalize (ws.drop (n + 1)).map tx = P3 at *
      generalize (ws.drop n).map tx = P2 at *
      generalize ws.map tx = P at *
      generalize tx w = W at *
      generalize tx v = V at *
      wp_walk using ln, hA2, od, h1, s1, s3, z1, z2
  · by_cases h2 : c % 4 = 1 ∧ 1 < N
    · obtain ⟨h2, hN1⟩ := h2
      refine ⟨ws.take n ++ ws.drop (n + 1), by simp only [List.length_append, List.length_take, List.length_drop]; omega, by simp only [List.length_append, List.length_take, List.length_drop]; omega, fun x hx => ?_, ?_⟩
      · rcases List.mem_append.1 hx with h | h
        · exact tk x h
        · exact dr _ x h
      · rw [List.map_append]
        have z2 : addD (.lst ((ws.take n).map tx)) (.lst ((ws.drop (n + 1)).map tx)) = some (.n (.lst ((ws.take n).map tx ++ (ws.drop (n + 1)).map tx))) := by
          rw [addD_l, if_pos]
          omega
        generalize (ws.take n).map tx = P1 at *
        generalize (ws.drop (n + 1)).map tx = P3 at *
        generalize (ws.drop n).map tx = P2 at *
        generalize ws.map tx = P at *
        generalize tx w = W at *
        generalize tx v = V at *
        wp_walk using ln, hA2, od, h1, h2, hN1, s1, s3, z2
    · by_cases h3 : c % 4 = 2
      · refine ⟨ws.take n ++ ([w] ++ ws.drop n), by simp only [List.length_append, List.length_singleton]; omega, by simp only [List.length_append, List.length_take, List.length_drop, List.length_singleton]; omega, fun x hx => ?_, ?_⟩
        · rcases List.mem_append.1 hx with h | h
          · exact tk x h
          · rcases List.mem_append.1 h with h | h
            · rw [List.mem_singleton.1 h]; exact dw
            · exact dr _ x h
        · rw [List.map_append, List.map_append, show [w].map tx = [tx w] from rfl]
          have z1 : addD (.lst ((ws.take n).map tx)) (.lst [tx w]) = some (.n (.lst ((ws.take n).map tx ++ [tx w]))) := by
            rw [addD_l, if_pos]
            simp only [List.length_singleton]; omega
          have z2 : addD (.lst ((ws.take n).map tx ++ [tx w])) (.lst ((ws.drop n).map tx)) = some (.n (.lst ((ws.take n).map tx ++ ([tx w] ++ (ws.drop n).map tx)))) := by
            rw [addD_l, if_pos, List.append_assoc]
            simp only [List.length_append, List.length_singleton]; omega
          generalize (ws.take n).map tx = P1 at *
          generalize (ws.drop (n + 1)).map tx = P3 at *
          generalize (ws.drop n).map tx = P2 at *
          generalize ws.map tx = P at *
          generalize tx w = W at *
          generalize tx v = V at *
          have h4 : ¬ c % 4 = 1 := by omega
          wp_walk using ln, hA2, od, h1, h3, h4, s1, s2, z1, z2, show ¬ (2 : Int) = 0 by decide, show ¬ (2 : Int) = 1 by decide
      · refine ⟨ws ++ [v], by simp, by simp, fun x hx => ?_, ?_⟩
        · rcases List.mem_append.1 hx with h | h
          · exact hw x h
          · rw [List.mem_singleton.1 h]; exact hw v vm
        · rw [List.map_append, show [v].map tx = [tx v] from rfl]
          have z1 : addD (.lst (ws.map tx)) (.lst [tx v]) = some (.n (.lst (ws.map tx ++ [tx v]))) := by
            rw [addD_l, if_pos]
            simp only [List.length_singleton]; omega
          generalize (ws.take n).map tx = P1 at *
          generalize (ws.drop (n + 1)).map tx = P3 at *
          generalize (ws.drop n).map tx = P2 at *
          generalize ws.map tx = P at *
          generalize tx w = W at *
          generalize tx v = V at *
          by_cases h4 : c % 4 = 1
          · have h5 : ¬ 1 < N := fun z => h2 ⟨h4, z⟩
            wp_walk using ln, hA2, od, h1, h3, h4, h5, hv, z1, show ¬ (1 : Int) = 0 by decide, show ¬ (1 : Int) = 2 by decide
          · wp_walk using ln, hA2, od, h1, h3, h4, hv, z1
/-! ### what the law finds -/
/-- what both answer -/
def Agree (T : Str) (L : List D) (w : List Nat) : Prop :=
  (∃ d : D, f__law_due [.lst L] = some (.v d) ∧ isNotD d .non = some (.v (.bl true)) ∧ f__law_refused [.str T] = some (.v d) ∧ eqD d d = some (.v (.bl true))) ∨
  (f__law_due [.lst L] = some (.v .non) ∧ ∃ (R : D) (T2 : Str) (P : List D), f_deed_read [.str T] = some (.v R) ∧ (∀ env, methR "told" tb_told [] env R = some (.v (.str T2))) ∧ splitD T2 (.str " ") = some (.n (.lst (tx w :: P))) ∧ eqD (tx w) (tx w) = some (.v (.bl true)))
theorem agree_text {T : Str} {L : List D} {w : List Nat} {j : Int} (h1 : f__law_due [.lst L] = some (.v (.tup [.lst [.str "NoText"], .int j]))) (h2 : f_deed_read [.str T] = some (.x (.exn "NoText" [("at", .int j)]))) : Agree T L w :=
  .inl ⟨_, h1, rfl, ref_text h2, eq_text j⟩
theorem agree_nought {T : Str} {L : List D} {w : List Nat} (h1 : f__law_due [.lst L] = some (.v (.tup [.lst [.str "Nought"], .int (-1)]))) (h2 : f_deed_read [.str T] = some (.x (.exn "Nought" []))) : Agree T L w :=
  .inl ⟨_, h1, rfl, ref_nought h2, eq_nought (-1)⟩
theorem bool4 {a b c d : Int} : (decide (a = 0) && (decide (b = 0) && (decide (c = 0) && (decide (d = 0) && true)))) = decide (a = 0 ∧ b = 0 ∧ c = 0 ∧ d = 0) := by
  simp only [Bool.and_true, Bool.decide_and]
theorem bool3 {a b c : Int} : (decide (a = 0) && (decide (b = 0) && (decide (c = 0) && true))) = decide (a = 0 ∧ b = 0 ∧ c = 0) := by
  simp only [Bool.and_true, Bool.decide_and]
section
variable {w0 : List Nat} {v : Option Int} {M : Int} {ps : List WP}
/-- behind the scan -/
theorem due_full (h : Head w0 M) (hd : ∀ p ∈ ps, DW p.1 p.2) (hl : ps.length ≤ 50) (sc : scan41 M 1 ps = none) (sh : ((ps.length + 1 : Nat) : Int) = M) : ∃ s2, b__law_due [.sh (.lst (txs ((w0, v) :: ps))), .un, .un, .un] = cSeq du5 du6 [.sh (.lst (txs ((w0, v) :: ps))), .sh (.int M), s2, .un] := by
  obtain ⟨s2, g⟩ := due_go_n M ps [(w0, v)] .un hd sc
  have ln := ln_e (w0 := w0) (ps := ps) (v := v)
  have d3 := (du_3 (M := M) ln (rg_ok (by omega)) (n := ps.length) (by omega)).trans g
  have b := due_12 (ps := ps) (v := v) h
  have d4 := du_4 (M := M) (s2 := s2) ln (by omega)
  have d3 : du3 [.sh (.lst (txs ((w0, v) :: ps))), .sh (.int M), .un, .un] = some (.nx [.sh (.lst (txs ((w0, v) :: ps))), .sh (.int M), s2, .un]) := d3
  rw [seq_go d3, seq_go d4] at b
  exact ⟨s2, b⟩
end
theorem du_end {L : List D} {M : Int} {s2 : Slot} {b : Bool} (h : b__law_due [.sh (.lst L), .un, .un, .un] = cSeq du5 du6 [.sh (.lst L), .sh (.int M), s2, .un]) (h5 : du5 [.sh (.lst L), .sh (.int M), s2, .un] = if b then some (.rt (.v (.tup [.lst [.str "Nought"], .int (-1)]))) else some (.nx [.sh (.lst L), .sh (.int M), s2, .un])) :
    f__law_due [.lst L] = some (.v (if b then .tup [.lst [.str "Nought"], .int (-1)] else .non)) := by
  cases b with
  | true =>
    rw [if_pos rfl] at h5 ⊢
    rw [seq_out h5] at h
    unfold f__law_due
    wp_walk using h
  | false =>
    rw [if_neg (by decide)] at h5 ⊢
    rw [seq_go h5] at h
    have d6 : du6 [.sh (.lst L), .sh (.int M), s2, .un] = some (.rt (.v .non)) := by cases s2 <;> rfl
    rw [d6] at h
    unfold f__law_due
    wp_walk using h
theorem agree_turn {a b c d : Int} {v : Option Int} (ha : F40 a) (hb : F40 b) (hc : F40 c) (hd : F40 d) {s2 : Slot}
    (h : b__law_due [.sh (.lst [tx wTurn, tx (decL a), tx (decL b), tx (decL c), tx (decL d)]), .un, .un, .un] = cSeq du5 du6 [.sh (.lst [tx wTurn, tx (decL a), tx (decL b), tx (decL c), tx (decL d)]), .sh (.int 5), s2, .un]) :
    Agree (deedT wTurn [a, b, c, d]) [tx wTurn, tx (decL a), tx (decL b), tx (decL c), tx (decL d)] wTurn := by
  have du := du_end h (du_5_4 (eq_zero a) (eq_zero b) (eq_zero c) (eq_zero d) bool4)
  by_cases z : a = 0 ∧ b = 0 ∧ c = 0 ∧ d = 0
  · rw [decide_eq_true z, if_pos rfl] at du
    obtain ⟨rfl, rfl, rfl, rfl⟩ := z
    exact agree_nought du turn_nought
  · rw [decide_eq_false z, if_neg (by decide)] at du
    have fq : Fq ⟨a, b, c, d⟩ := ⟨ha, hb, hc, hd⟩
    have q0 : ¬ (⟨a, b, c, d⟩ : Q) = ⟨0, 0, 0, 0⟩ := fun e => z ⟨congrArg Q.a e, congrArg Q.b e, congrArg Q.c e, congrArg Q.d e⟩
    have ft := told_fq fq q0
    have r := turn_read fq q0
    dsimp only at r
    have sp := deed_split (w := wTurn) (by decide) (by decide) ft.all (by simp)
    have tl := trn_told _ ft
    have tq : eqD (tx wTurn) (tx wTurn) = some (.v (.bl true)) := by kernel_rfl
    exact .inr ⟨du, _, _, _, r, fun env => tl, sp, tq⟩
theorem agree_half {a b c : Int} {v : Option Int} (ha : F40 a) (hb : F40 b) (hc : F40 c) {s2 : Slot}
    (h : b__law_due [.sh (.lst [tx wHalf, tx (decL a), tx (decL b), tx (decL c)]), .un, .un, .un] = cSeq du5 du6 [.sh (.lst [tx wHalf, tx (decL a), tx (decL b), tx (decL c)]), .sh (.int 4), s2, .un]) :
    Agree (deedT wHalf [a, b, c]) [tx wHalf, tx (decL a), tx (decL b), tx (decL c)] wHalf := by
  have du := du_end h (du_5_3 (eq_zero a) (eq_zero b) (eq_zero c) bool3)
  by_cases z : a = 0 ∧ b = 0 ∧ c = 0
  · rw [decide_eq_true z, if_pos rfl] at du
    obtain ⟨rfl, rfl, rfl⟩ := z
    exact agree_nought du half_nought
  · rw [decide_eq_false z, if_neg (by decide)] at du
    have fq : Fv ⟨a, b, c⟩ := ⟨ha, hb, hc⟩
    have q0 : ¬ (⟨a, b, c⟩ : V3) = ⟨0, 0, 0⟩ := fun e => z ⟨congrArg V3.x e, congrArg V3.y e, congrArg V3.z e⟩
    have ft := told_fv fq q0
    have r := half_read fq q0
    dsimp only at r
    have sp := deed_split (w := wHalf) (by decide) (by decide) ft.all (by simp)
    have tl := half_told _ ft
    have tq : eqD (tx wHalf) (tx wHalf) = some (.v (.bl true)) := by kernel_rfl
    exact .inr ⟨du, _, _, _, r, fun env => tl, sp, tq⟩
theorem agree_mirr {a b c : Int} {v : Option Int} (ha : F40 a) (hb : F40 b) (hc : F40 c) {s2 : Slot}
    (h : b__law_due [.sh (.lst [tx wMirr, tx (decL a), tx (decL b), tx (decL c)]), .un, .un, .un] = cSeq du5 du6 [.sh (.lst [tx wMirr, tx (decL a), tx (decL b), tx (decL c)]), .sh (.int 4), s2, .un]) :
    Agree (deedT wMirr [a, b, c]) [tx wMirr, tx (decL a), tx (decL b), tx (decL c)] wMirr := by
  have du := du_end h (du_5_3 (eq_zero a) (eq_zero b) (eq_zero c) bool3)
  by_cases z : a = 0 ∧ b = 0 ∧ c = 0
  · rw [decide_eq_true z, if_pos rfl] at du
    obtain ⟨rfl, rfl, rfl⟩ := z
    exact agree_nought du mirr_nought
  · rw [decide_eq_false z, if_neg (by decide)] at du
    have fq : Fv ⟨a, b, c⟩ := ⟨ha, hb, hc⟩
    have q0 : ¬ (⟨a, b, c⟩ : V3) = ⟨0, 0, 0⟩ := fun e => z ⟨congrArg V3.x e, congrArg V3.y e, congrArg V3.z e⟩
    have ft := told_fv fq q0
    have r := mirr_read fq q0
    dsimp only at r
    have sp := deed_split (w := wMirr) (by decide) (by decide) ft.all (by simp)
    have tl := mirr_told _ ft
    have tq : eqD (tx wMirr) (tx wMirr) = some (.v (.bl true)) := by kernel_rfl
    exact .inr ⟨du, _, _, _, r, fun env => tl, sp, tq⟩
theorem is4 {is : List Int} (h : is.length = 4) : ∃ a b c d, is = [a, b, c, d] := by
  match is, h with
  | [a, b, c, d], _ => exact ⟨a, b, c, d, rfl⟩
theorem is3 {is : List Int} (h : is.length = 3) : ∃ a b c, is = [a, b, c] := by
  match is, h with
  | [a, b, c], _ => exact ⟨a, b, c, rfl⟩
theorem agree_all {w0 : List Nat} {v : Option Int} {ps : List WP} {T : Str} (d0 : DW w0 v) (hd : ∀ p ∈ ps, DW p.1 p.2) (hl : ps.length ≤ 50) (hT : T = Txt.join (SX.S [32]) ((w0 :: ps.map (·.1)).map SX.S)) (sp : splitD T (.str " ") = some (.n (.lst (txs ((w0, v) :: ps))))) : Agree T (txs ((w0, v) :: ps)) w0 := by
  rcases head_or w0 with ⟨M, hH⟩ | ⟨h1, h2, h3⟩
  · cases sc : scan41 M 1 ps with
    | some j => exact agree_text (due_scan hH hd hl sc) (read_scan hH hd sc sp)
    | none =>
      by_cases sh : ((ps.length + 1 : Nat) : Int) < M
      · exact agree_text (due_short hH hd hl sc sh) (read_short hH hd sc sh sp)
      · have sl : ((ps.length + 1 : Nat) : Int) = M := by
          have := hH.pos
          rcases scan_len sc with rfl | h
          · simp only [List.length_nil] at sh; omega
          · omega
        obtain ⟨s2, b⟩ := due_full (v := v) hH hd hl sc sl
        obtain ⟨is, hi⟩ := scan_all sc
        obtain ⟨e, f⟩ := ps_dec hd hi
        have il : is.length = ps.length := by rw [e, List.length_map]
        cases hH with
        | turn =>
          obtain ⟨a, b', c, d, rfl⟩ := is4 (is := is) (by omega)
          subst e
          have eT : T = deedT wTurn [a, b', c, d] := hT
          rw [eT]
          exact agree_turn (v := v) (f a (by simp)) (f b' (by simp)) (f c (by simp)) (f d (by simp)) b
        | half =>
          obtain ⟨a, b', c, rfl⟩ := is3 (is := is) (by omega)
          subst e
          have eT : T = deedT wHalf [a, b', c] := hT
          rw [eT]
          exact agree_half (v := v) (f a (by simp)) (f b' (by simp)) (f c (by simp)) b
        | mirr =>
          obtain ⟨a, b', c, rfl⟩ := is3 (is := is) (by omega)
          subst e
          have eT : T = deedT wMirr [a, b', c] := hT
          rw [eT]
          exact agree_mirr (v := v) (f a (by simp)) (f b' (by simp)) (f c (by simp)) b
  · exact agree_text (due_no d0.sm h1 h2 h3) (read_no sp h1 h2 h3)
theorem pairs : ∀ ws : List (List Nat), (∀ w ∈ ws, DWx w) → ∃ ps : List WP, ps.map (·.1) = ws ∧ ∀ p ∈ ps, DW p.1 p.2
  | [], _ => ⟨[], rfl, fun p hp => (nomatch hp)⟩
  | w :: r, h => by
    obtain ⟨ps, e, hd⟩ := pairs r fun x hx => h x (List.mem_cons_of_mem _ hx)
    obtain ⟨v, d⟩ := h w (List.mem_cons_self ..)
    refine ⟨(w, v) :: ps, by rw [List.map_cons, e], fun p hp => ?_⟩
    rcases List.mem_cons.1 hp with rfl | hp
    · exact d
    · exact hd p hp
theorem agree_ws {ws : List (List Nat)} (h : ∀ w ∈ ws, DWx w) (h0 : 0 < ws.length) (hl : ws.length ≤ 10) : ∃ (w : List Nat) (r : List (List Nat)), ws = w :: r ∧ joinD (SX.S [32]) (.lst (ws.map tx)) = some (.v (.str (Txt.join (SX.S [32]) (ws.map SX.S)))) ∧ splitD (Txt.join (SX.S [32]) (ws.map SX.S)) (.str " ") = some (.n (.lst (ws.map tx))) ∧ Agree (Txt.join (SX.S [32]) (ws.map SX.S)) (ws.map tx) w := by
  have k : ∀ p ∈ ws, p.length ≤ 60 := fun p hp => (h p hp).elim fun _ d => d.len
  have jn := join_tx (l := ws) (k := 60) k (by omega)
  have ne : ws ≠ [] := fun z => by rw [z] at h0; exact absurd h0 (by decide)
  have sp : splitD (Txt.join (SX.S [32]) (ws.map SX.S)) (.str " ") = some (.n (.lst (ws.map tx))) := split_joined (c := 32) (parts := ws) (by decide) ne (fun p hp => (h p hp).elim fun _ d => d.nb) (Nat.le_trans (joinL_len k) (by omega))
  obtain ⟨ps, e, hd⟩ := pairs ws h
  cases ps with
  | nil => exact absurd e.symm ne
  | cons p r =>
    obtain ⟨w, v⟩ := p
    have e2 : ws.map tx = txs ((w, v) :: r) := by
      rw [← e, List.map_map]
      rfl
    have e3 : ws = w :: r.map (·.1) := by rw [← e]; rfl
    refine ⟨w, _, e3, jn, sp, ?_⟩
    have lr : ws.length = r.length + 1 := by rw [← e, List.length_map]; rfl
    rw [e2]
    refine agree_all (hd _ (List.mem_cons_self ..)) (fun q hq => hd q (List.mem_cons_of_mem _ hq)) (by omega) (by rw [← e3]) ?_
    rw [← e2]
    exact sp
/-! ### the law -/
noncomputable abbrev st1 : Sm := (cSet 1 [] (cCall f__law_cell [(vr 0), (cC (.int 0))]))
noncomputable abbrev st2 : Sm := (cSet 2 [1] (cLst [(cOp ixD (cTup [(cC (.str "turn")), (cC (.str "half")), (cC (.str "mirror"))]) (cOp modD (vr 1) (cC (.int 3))))]))
noncomputable abbrev st3 : Sm := (cFor [1] (iRange1 (cOp ixD (cTup [(cC (.int 4)), (cC (.int 3)), (cC (.int 3))]) (cOp modD (vr 1) (cC (.int 3))))) (.nm 3) w_law_0)
noncomputable abbrev st4 : Sm := (cFor [1] (iRange1 (cOp modD (cOp fdivD (vr 1) (cC (.int 36))) (cC (.int 3)))) (.nm 3) w_law_1)
noncomputable abbrev st5 : Sm := (cSet 5 [2] (cM1 joinD (cC (.str " ")) (vr 2)))
noncomputable abbrev st6 : Sm := (cSet 6 [5] (cCall f__law_due [(cM1 splitD (vr 5) (cC (.str " ")))]))
noncomputable abbrev st7 : Sm := (cIf [6] (tBl (cOp isNotD (vr 6) (cC .non))) (cRet [5, 6] (cOp eqD (cCall f__law_refused [(vr 5)]) (vr 6))) cNil)
noncomputable abbrev st8 : Sm := (cRet [2, 5] (cOp eqD (cOp ixD (cM1 splitD (cMeth "told" tb_told (cCall f_deed_read [(vr 5)]) []) (cC (.str " "))) (cC (.int 0))) (cOp ixD (vr 2) (cC (.int 0)))))
theorem b_law_eq : b_law = (cSeq st1 (cSeq st2 (cSeq st3 (cSeq st4 (cSeq st5 (cSeq st6 (cSeq st7 st8))))))) := rfl
set_option maxHeartbeats 1000001
theorem s_1 (s : Scr) : st1 [.sh (.scr (s.ns.map .int)), .un, .un, .un, .un, .un, .un] = some (.nx [.sh (.scr (s.ns.map .int)), .sh (.int (cell s 0)), .un, .un, .un, .un, .un]) := by
  have c0 := cell_e s (k := 0) (n := 1) (by decide)
  unfold st1
  wp_walk using c0
theorem s_2 {S : D} (c : Int) : ∃ w : List Nat, DWx w ∧ st2 [.sh S, .sh (.int c), .un, .un, .un, .un, .un] = some (.nx [.sh S, .sh (.int c), .own (.lst [tx w]), .un, .un, .un, .un]) := by
  unfold st2
  rcases (show c % 3 = 0 ∨ c % 3 = 1 ∨ c % 3 = 2 by omega) with h | h | h
  · exact ⟨wTurn, dw_7, by (wp_walk using h); rfl⟩
  · exact ⟨wHalf, dw_8, by (wp_walk using h); rfl⟩
  · exact ⟨wMirr, dw_9, by (wp_walk using h); rfl⟩
theorem num_f40 (c k : Int) : F40 (numL c k) := by
  have : (numL c k).natAbs ≤ 10 ^ 20 := by
    unfold numL
    split
    · omega
    · split <;> omega
  unfold F40
  exact Nat.lt_of_le_of_lt this (by decide +kernel)
theorem word_step {c : Int} {n : Nat} [hc : SzC c n] (hn : n ≤ 1500000) (s : Scr) {k : Int} {L : List D} (s4 : Slot) (h4 : s4 = .un ∨ ∃ d, s4 = .sh d) (k0 : 0 ≤ k) (k1 : k ≤ 5) (hl : L.length < 16777216) : ∃ (w : List Nat) (d4 : D), DWx w ∧ w_law_0 [.sh (.scr (s.ns.map .int)), .sh (.int c), .own (.lst L), .sh (.int k), s4, .un, .un] = some (.nx [.sh (.scr (s.ns.map .int)), .sh (.int c), .own (.lst (L ++ [tx w])), .sh (.int k), .sh d4, .un, .un]) := by
  haveI := hc.mono hn
  haveI : SzC k 5 := ⟨by omega⟩
  have ck := cell_e s (k := 3 + k) (n := 10) (hs := ⟨by omega⟩) (by decide)
  have ne := number_e (c := cell s (3 + k)) (k := c / 3) (by decide)
  have i0 : intC [.bl false] = some (.v (.int 0)) := rfl
  have i1 : intC [.bl true] = some (.v (.int 1)) := rfl
  have f := num_f40 (cell s (3 + k)) (c / 3)
  haveI := f.sz
  generalize numL (cell s (3 + k)) (c / 3) = x at *
  by_cases h : 0 < c / 9 % 4
  · have m1 : mulD (.int x) (.int 1) = some (.v (.int x)) := by rw [mulD_ok (m := 140) (n := 1) (by decide), Int.mul_one]
    have sd := str_dec (i := x) (n := 140) (by decide)
    refine ⟨decL x, .int x, ⟨_, dw_dec f⟩, ?_⟩
    generalize tx (decL x) = W at *
    unfold w_law_0
    rcases h4 with rfl | ⟨d, rfl⟩ <;> wp_walk using ck, ne, h, i1, m1, sd, hl
  · have m1 : mulD (.int x) (.int 0) = some (.v (.int 0)) := by rw [mulD_ok (m := 140) (n := 1) (by decide), Int.mul_zero]
    have sd : strC [.int 0] = some (.v (tx (decL 0))) := @str_dec 0 140 z40.sz (by decide)
    refine ⟨decL 0, .int x, ⟨_, dw_dec z40⟩, ?_⟩
    generalize tx (decL 0) = W at *
    unfold w_law_0
    rcases h4 with rfl | ⟨d, rfl⟩ <;> wp_walk using ck, ne, h, i0, m1, sd, hl
theorem s_3 (s : Scr) (c : Int) {n0 : Nat} [hc : SzC c n0] (hn0 : n0 ≤ 1500000) (w0 : List Nat) (hw0 : DWx w0) : ∃ (ws : List (List Nat)) (t3 t4 : D), 0 < ws.length ∧ ws.length ≤ 5 ∧ (∀ w ∈ ws, DWx w) ∧ st3 [.sh (.scr (s.ns.map .int)), .sh (.int c), .own (.lst [tx w0]), .un, .un, .un, .un] = some (.nx [.sh (.scr (s.ns.map .int)), .sh (.int c), .own (.lst (ws.map tx)), .sh t3, .sh t4, .un, .un]) := by
  obtain ⟨n, n3, n4, hn⟩ : ∃ n : Nat, 3 ≤ n ∧ n ≤ 4 ∧ ixD (.tup [.int 4, .int 3, .int 3]) (.int (c % 3)) = some (.v (.int (n : Int))) := by
    rcases (show c % 3 = 0 ∨ c % 3 = 1 ∨ c % 3 = 2 by omega) with h | h | h <;> rw [h]
    · exact ⟨4, by decide, by decide, rfl⟩
    · exact ⟨3, by decide, by decide, rfl⟩
    · exact ⟨3, by decide, by decide, rfl⟩
  have rl : (rgI 0 n).length = n := rgI_len' ..
  obtain ⟨e', hg, ws, t3, t4, h4, hsh, hw, hlen, h2⟩ := for_inv (tg := .nm 3) (body := w_law_0) (f := D.int) (fun d env => ∃ (ws : List (List Nat)) (t3 t4 : Slot), (t4 = .un ∨ ∃ d, t4 = .sh d) ∧ (d ≠ [] → ∃ a b, t3 = .sh a ∧ t4 = .sh b) ∧ (∀ w ∈ ws, DWx w) ∧ ws.length = d.length + 1 ∧ env = [.sh (.scr (s.ns.map .int)), .sh (.int c), .own (.lst (ws.map tx)), t3, t4, .un, .un]) (rgI 0 n) [] [.sh (.scr (s.ns.map .int)), .sh (.int c), .own (.lst [tx w0]), .un, .un, .un, .un] ⟨[w0], .un, .un, .inl rfl, fun h => absurd rfl h, fun w hw => by rw [List.mem_singleton.1 hw]; exact hw0, rfl, rfl⟩ fun d k R e he hI => by
    obtain ⟨ws, t3, t4, h4, _, hw, hlen, rfl⟩ := hI
    have hk : k ∈ rgI 0 n := by
      have : k ∈ ([] : List Int) ++ rgI 0 n := by rw [he]; simp
      exact this
    have hk := rgI_mem.1 hk
    have hd : d.length ≤ 6 := by
      have := congrArg List.length he
      rw [List.length_append, List.length_append, rl] at this
      have l0 : ([] : List Int).length = 0 := rfl
      omega
    obtain ⟨w, d4, gw, st⟩ := word_step (c := c) hn0 s (L := ws.map tx) (k := k) t4 h4 (by omega) (by omega) (by rw [List.length_map]; omega)
    refine ⟨_, _, tgNm _ _ _, st, ws ++ [w], .sh (.int k), .sh d4, .inr ⟨_, rfl⟩, fun _ => ⟨_, _, rfl, rfl⟩, fun v hv => ?_, by rw [List.length_append, List.length_append, hlen]; rfl, by rw [List.map_append]; rfl⟩
    rcases List.mem_append.1 hv with hv | hv
    · exact hw v hv
    · rw [List.mem_singleton.1 hv]; exact gw
  rw [List.nil_append] at hsh hlen
  rw [rl] at hlen
  obtain ⟨a, b, rfl, rfl⟩ := hsh (fun z => by rw [z] at rl; have : 0 = n := rl; omega)
  subst h2
  refine ⟨ws, a, b, by omega, by omega, hw, ?_⟩
  unfold st3
  rw [for_e]
  have i : iRange1 (cOp ixD (cTup [(cC (.int 4)), (cC (.int 3)), (cC (.int 3))]) (cOp modD (vr 1) (cC (.int 3)))) (mask [1] [.sh (.scr (s.ns.map .int)), .sh (.int c), .own (.lst [tx w0]), .un, .un, .un, .un]) = some (.ok ((rgI 0 n).map .int) false) := by
    have mk : mask [1] [Slot.sh (.scr (s.ns.map .int)), .sh (.int c), .own (.lst [tx w0]), .un, .un, .un, .un] = [.sh (.scr (s.ns.map .int)), .sh (.int c), .un, .un, .un, .un, .un] := rfl
    have e : (cOp ixD (cTup [(cC (.int 4)), (cC (.int 3)), (cC (.int 3))]) (cOp modD (vr 1) (cC (.int 3)))) [.sh (.scr (s.ns.map .int)), .sh (.int c), .un, .un, .un, .un, .un] = some (.v (.int (n : Int))) := by
      generalize (n : Int) = m at *
      wp_walk using hn
    rw [mk, iRange1_e]
    unfold evs
    rw [e]
    rcases (show n = 3 ∨ n = 4 by omega) with rfl | rfl <;> rfl
  rw [i]
  exact hg
theorem chg_step (s : Scr) {c : Int} {k : Int} {t4 : D} {s3 : Slot} (k0 : 0 ≤ k) (k1 : k ≤ 5) (ws : List (List Nat)) (hw : ∀ w ∈ ws, DWx w) (h0 : 0 < ws.length) (hn : ws.length ≤ 90) : ∃ ws' : List (List Nat), 0 < ws'.length ∧ ws'.length ≤ ws.length + 1 ∧ (∀ w ∈ ws', DWx w) ∧ w_law_1 [.sh (.scr (s.ns.map .int)), .sh (.int c), .own (.lst (ws.map tx)), .sh (.int k), .sh t4, .un, .un] = some (.nx [.sh (.scr (s.ns.map .int)), .sh (.int c), .own (.lst (ws'.map tx)), .sh (.int k), .sh t4, .un, .un]) := by
  haveI : SzC k 5 := ⟨by omega⟩
  have ck := cell_e s (k := 1 + k) (n := 10) (hs := ⟨by omega⟩) (by decide)
  obtain ⟨ws', l0, l1, d, e⟩ := changed_e (c := cell s (1 + k)) (by decide) ws hw h0 hn
  refine ⟨ws', l0, l1, d, ?_⟩
  generalize ws'.map tx = P' at *
  generalize ws.map tx = P at *
  unfold w_law_1
  wp_walk using ck, e
theorem s_4 (s : Scr) (c : Int) {n0 : Nat} [hc : SzC c n0] (hn0 : n0 ≤ 1500000) {t3 t4 : D} (ws : List (List Nat)) (hw : ∀ w ∈ ws, DWx w) (h0 : 0 < ws.length) (hn : ws.length ≤ 5) : ∃ (ws' : List (List Nat)) (t3' : D), 0 < ws'.length ∧ ws'.length ≤ 7 ∧ (∀ w ∈ ws', DWx w) ∧ st4 [.sh (.scr (s.ns.map .int)), .sh (.int c), .own (.lst (ws.map tx)), .sh t3, .sh t4, .un, .un] = some (.nx [.sh (.scr (s.ns.map .int)), .sh (.int c), .own (.lst (ws'.map tx)), .sh t3', .sh t4, .un, .un]) := by
  haveI := hc.mono hn0
  have m0 := Int.emod_nonneg (c / 36) (b := 3) (by decide)
  have m1 := Int.emod_lt_of_pos (c / 36) (b := 3) (by decide)
  have step := fun (k : Int) (k0 : 0 ≤ k) (k1 : k ≤ 5) (ws : List (List Nat)) (hw : ∀ w ∈ ws, DWx w) (h0 : 0 < ws.length) (hn : ws.length ≤ 90) => chg_step s (c := c) (t4 := t4) (s3 := .un) k0 k1 ws hw h0 hn
  rcases (show c / 36 % 3 = 0 ∨ c / 36 % 3 = 1 ∨ c / 36 % 3 = 2 by omega) with h | h | h
  · refine ⟨ws, t3, h0, by omega, hw, ?_⟩
    generalize ws.map tx = P at *
    unfold st4
    wp_walk using h
  · obtain ⟨w1, a0, a1, a2, e1⟩ := step 0 (by decide) (by decide) ws hw h0 (by omega)
    refine ⟨w1, .int 0, a0, by omega, a2, ?_⟩
    generalize w1.map tx = P1 at *
    generalize ws.map tx = P at *
    unfold st4
    wp_walk using h, e1
  · obtain ⟨w1, a0, a1, a2, e1⟩ := step 0 (by decide) (by decide) ws hw h0 (by omega)
    obtain ⟨w2, b0, b1, b2, e2⟩ := step 1 (by decide) (by decide) w1 a2 a0 (by omega)
    refine ⟨w2, .int 1, b0, by omega, b2, ?_⟩
    generalize w2.map tx = P2 at *
    generalize w1.map tx = P1 at *
    generalize ws.map tx = P at *
    unfold st4
    wp_walk using h, e1, e2
theorem lit_blank : D.str " " = tx [32] := rfl
section
variable {S T3 T4 : D} {c : Int} {L P : List D} {T T2 : Str}
theorem s_5 (h : joinD (SX.S [32]) (.lst L) = some (.v (.str T))) : st5 [.sh S, .sh (.int c), .own (.lst L), .sh T3, .sh T4, .un, .un] = some (.nx [.sh S, .sh (.int c), .own (.lst L), .sh T3, .sh T4, .sh (.str T), .un]) := by
  unfold st5
  wp_walk using lit_blank, h
theorem s_6 {d : D} (sp : splitD T (.str " ") = some (.n (.lst L))) (h : f__law_due [.lst L] = some (.v d)) : st6 [.sh S, .sh (.int c), .own (.lst L), .sh T3, .sh T4, .sh (.str T), .un] = some (.nx [.sh S, .sh (.int c), .own (.lst L), .sh T3, .sh T4, .sh (.str T), .sh d]) := by
  unfold st6
  by_cases f : d.flat = true <;> wp_walk using sp, h, f
theorem s_7x {d : D} (n : isNotD d .non = some (.v (.bl true))) (r : f__law_refused [.str T] = some (.v d)) (q : eqD d d = some (.v (.bl true))) : st7 [.sh S, .sh (.int c), .own (.lst L), .sh T3, .sh T4, .sh (.str T), .sh d] = some (.rt (.v (.bl true))) := by
  unfold st7
  wp_walk using n, r, q
theorem s_7 : st7 [.sh S, .sh (.int c), .own (.lst L), .sh T3, .sh T4, .sh (.str T), .sh .non] = some (.nx [.sh S, .sh (.int c), .own (.lst L), .sh T3, .sh T4, .sh (.str T), .sh .non]) := by
  have n : isNotD .non .non = some (.v (.bl false)) := rfl
  unfold st7
  wp_walk using n
theorem s_8 {R w : D} (x0 : ixD (.lst L) (.int 0) = some (.v w)) (r : f_deed_read [.str T] = some (.v R)) (tl : ∀ env, methR "told" tb_told [] env R = some (.v (.str T2))) (sp : splitD T2 (.str " ") = some (.n (.lst (w :: P)))) (q : eqD w w = some (.v (.bl true))) : st8 [.sh S, .sh (.int c), .own (.lst L), .sh T3, .sh T4, .sh (.str T), .sh .non] = some (.rt (.v (.bl true))) := by
  unfold st8
  wp_walk using x0, r, tl, sp, q
end
theorem body41 (s : Scr) : b_law [.sh (.scr (s.ns.map .int)), .un, .un, .un, .un, .un, .un] = some (.rt (.v (.bl true))) := by
  rw [b_law_eq, seq_go (s_1 s)]
  obtain ⟨w0, hw0, e2⟩ := s_2 (S := .scr (s.ns.map .int)) (cell s 0)
  rw [seq_go e2]
  obtain ⟨ws, t3, t4, l0, l5, hw, e3⟩ := s_3 s (cell s 0) (by decide) w0 hw0
  rw [seq_go e3]
  obtain ⟨ws', t3', l0', l7, hw', e4⟩ := s_4 s (cell s 0) (by decide) (t3 := t3) (t4 := t4) ws hw l0 l5
  rw [seq_go e4]
  obtain ⟨w, r, ew, jn, sp, ag⟩ := agree_ws hw' l0' (by omega)
  rw [seq_go (s_5 jn)]
  have x0 : ixD (.lst (ws'.map tx)) (.int 0) = some (.v (tx w)) := by
    rw [ew, List.map_cons, ix_lst]
    show (atI (tx w :: r.map tx) ((0 : Nat) : Int)).map Vn.v = _
    rw [atI_nat]
    rfl
  generalize Txt.join (SX.S [32]) (ws'.map SX.S) = T at *
  generalize ws'.map tx = L at *
  rcases ag with ⟨d, hd, nn, hr, hq⟩ | ⟨hd, R, T2, P, hr, tl, sp2, hq⟩
  · rw [seq_go (s_6 sp hd), seq_out (s_7x nn hr hq)]
  · rw [seq_go (s_6 sp hd), seq_go s_7]
    exact s_8 x0 hr tl sp2 hq
theorem law_holds : Keeps f_law := keeps_of fun s => by
  have b := body41 s
  unfold f_law
  wp_walk using b
end HD

set_option Elab.async false
set_option linter.all false
set_option maxRecDepth 100000
set_option maxHeartbeats 0
namespace HD
open PySem PySem.Spec PyProof.Rows L2
def top (i : Nat) : Stmt := PySem.Challenge.pw_spaceturns_k41_texts_of_no_deed.main.body.getD i (.Pass ⟨0, 0, 0, 0⟩)
abbrev s__law_cell : Stmt := top 29
abbrev s__law_right : Stmt := top 35
abbrev s__law_due : Stmt := top 36
abbrev s__law_number : Stmt := top 31
abbrev s__law_odd : Stmt := top 33
abbrev s__law_changed : Stmt := top 34
abbrev s_NoText___init__ : Stmt := inCls (top 8) 0
abbrev s_divisor_of : Stmt := top 14
abbrev s_as_told : Stmt := top 20
abbrev s_Mirror___init__ : Stmt := inCls (top 25) 0
abbrev s_Turn___init__ : Stmt := inCls (top 23) 0
abbrev s_HalfTurn___init__ : Stmt := inCls (top 24) 0
abbrev s_writes_whole : Stmt := top 26
abbrev s_deed_read : Stmt := top 27
abbrev s__law_kinds : Stmt := top 32
abbrev s__law_whole : Stmt := top 30
abbrev s__law_refused : Stmt := top 37
abbrev s_words_of : Stmt := top 22
abbrev s_Turn_told : Stmt := inCls (top 23) 5
abbrev s_HalfTurn_told : Stmt := inCls (top 24) 4
abbrev s_Mirror_told : Stmt := inCls (top 25) 4
abbrev s_law : Stmt := top 38
section
variable {P : Program} {w : World} {K : PySem.W.Frag} {mg : Str → Option Value} {base : Heap} {f : Addr} {fd : FuncData}
theorem bv_ValueError : bootBuiltins "ValueError" = some (.type "ValueError") := by decide +kernel
abbrev n__law_cell : List Str := ["_law_script", "_law_k", "_law_cell_here", "_law_mixed"]
theorem sc__law_cell : FnScope n__law_cell ["_law_script", "_law_k"] (defScope s__law_cell) := ⟨rfl, rfl, rfl, by decide +kernel, rfl, by decide +kernel, by decide +kernel⟩
theorem ok__law_cell (F : FunD K "_law_cell" "_law_cell" (defArgs s__law_cell) (defBody s__law_cell) (defScope s__law_cell) [] [] f fd) (g0 : Gs mg) : FnOk P w K mg base (L2.CX P w) 2 f fd ["_law_script", "_law_k"] (spD K f__law_cell) :=
  fn_ok (n := 4) (np := 2) (F := b__law_cell) F sc__law_cell rfl rfl fun cdv A outer s H E hr => by
    have tk := takes_of (X := cxOf (L2.CX P w) P w K mg base n__law_cell "_law_cell" (defScope s__law_cell) f cdv A outer s H E) rfl rfl rfl rfl
    unfold b__law_cell
    exact (pssd_cons (psd_set (i := 2) sc__law_cell.nd rfl (by first | exact Or.inl rfl | exact Or.inr rfl) pd_int)
    (pssd_cons (psd_if (ptd_cmp opd_gt (pd_cb cd_len rfl (g0.at 0) bt_len (pad_cons (pd_var 0) pad_nil)) pd_int (nomark _))
    (pssd_one (psd_set (i := 2) sc__law_cell.nd rfl (by first | exact Or.inl rfl | exact Or.inr rfl) (pd_ix hr.u1 (pd_var 0) (pd_op opd_mod (pd_var 1) (pd_cb cd_len rfl (g0.at 0) bt_len (pad_cons (pd_var 0) pad_nil))))))
    pssd_nil)
    (pssd_cons (psd_set (i := 3) sc__law_cell.nd rfl (by first | exact Or.inl rfl | exact Or.inr rfl) (pd_op opd_mod (pd_op opd_mul (pd_op opd_add (pd_op opd_add (pd_op opd_mod (pd_var 2) pd_int) (pd_op opd_mul pd_int (pd_var 1))) pd_int) pd_int) pd_int))
    (pssd_one (psd_ret (pd_op opd_add (pd_op opd_mul (pd_op opd_fdiv (pd_var 2) pd_int) pd_int) (pd_op opd_mod (pd_op opd_add (pd_op opd_mul (pd_var 3) pd_int) (pd_var 1)) pd_int)))))))
abbrev n__law_right : List Str := ["_law_word", "_law_figures", "_law_sign"]
theorem sc__law_right : FnScope n__law_right ["_law_word"] (defScope s__law_right) := ⟨rfl, rfl, rfl, by decide +kernel, rfl, by decide +kernel, by decide +kernel⟩
theorem ok__law_right (F : FunD K "_law_right" "_law_right" (defArgs s__law_right) (defBody s__law_right) (defScope s__law_right) [] [] f fd) (g0 : Gs mg) : FnOk P w K mg base (L2.CX P w) 2 f fd ["_law_word"] (spD K f__law_right) :=
  fn_ok (n := 3) (np := 1) (F := b__law_right) F sc__law_right rfl rfl fun cdv A outer s H E hr => by
    have tk := takes_of (X := cxOf (L2.CX P w) P w K mg base n__law_right "_law_right" (defScope s__law_right) f cdv A outer s H E) rfl rfl rfl rfl
    unfold b__law_right e__law_right_0
    exact (pssd_cons (psd_set (i := 1) sc__law_right.nd rfl (by first | exact Or.inl rfl | exact Or.inr rfl) (pd_var 0))
    (pssd_cons (psd_if (ptd_cmp (opd_eq hr.units) (pd_slice (pd_var 0) psp_no (psp_at pd_int)) pd_str (nomark _))
    (pssd_one (psd_set (i := 1) sc__law_right.nd rfl (by first | exact Or.inl rfl | exact Or.inr rfl) (pd_slice (pd_var 0) (psp_at pd_int) psp_no)))
    pssd_nil)
    (pssd_cons (psd_if (PW.pt (pwd_or (ptd_not (ptd_chain opd_le opd_le pd_int (pd_cb cd_len rfl (g0.at 0) bt_len (pad_cons (pd_var 1) pad_nil)) pd_int)) (pwd_or1 (ptd_val (pd_cb (cd_any rfl) rfl (g0.at 8) bt_any (pad_cons (pd_lc (own := [("_law_sign", 2)]) (T := (.nm 2)) rfl sc__law_right.nd (pid_seq (pd_var 1)) (blkOk_by (N := n__law_right) (sc := defScope s__law_right) (by decide +kernel)) (fun _ _ _ _ _ => (pg_name (i := 2) sc__law_right.nd rfl (by first | exact Or.inl rfl | exact Or.inr rfl))) (fun _ _ _ _ _ => pts_yes') (fun _ _ _ _ _ => (pd_cmp (opd_notIn hr.u65) (pd_var 2) pd_str (by rfl)))) pad_nil))))))
    (pssd_one (psd_ret pd_bl))
    pssd_nil)
    (pssd_one (psd_ret (pd_or (pd_cmp (opd_ne hr.units) (pd_ix hr.u1 (pd_var 1) pd_int) pd_str (nomark _)) (pd_one (pd_cmp (opd_eq hr.units) (pd_var 0) pd_str (nomark _)))))))))
abbrev n__law_due : List Str := ["_law_words", "_law_many", "_law_at", "_law_word"]
theorem sc__law_due : FnScope n__law_due ["_law_words"] (defScope s__law_due) := ⟨rfl, rfl, rfl, by decide +kernel, rfl, by decide +kernel, by decide +kernel⟩
theorem ok__law_due (F : FunD K "_law_due" "_law_due" (defArgs s__law_due) (defBody s__law_due) (defScope s__law_due) [] [] f fd) (g0 : Gs mg) (G__law_right : Dn P w K mg base "_law_right" 2 f__law_right) : FnOk P w K mg base (L2.CX P w) 4 f fd ["_law_words"] (spD K f__law_due) :=
  fn_ok (n := 4) (np := 1) (F := b__law_due) F sc__law_due rfl rfl fun cdv A outer s H E hr => by
    have tk := takes_of (X := cxOf (L2.CX P w) P w K mg base n__law_due "_law_due" (defScope s__law_due) f cdv A outer s H E) rfl rfl rfl rfl
    unfold b__law_due e__law_due_0 w__law_due_0
    exact (pssd_cons (psd_if (ptd_cmp (opd_notIn hr.u65) (pd_ix hr.u1 (pd_var 0) pd_int) (pd_tup (pad_cons pd_str (pad_cons pd_str (pad_cons pd_str pad_nil)))) (by rfl))
    (pssd_one (psd_ret (pd_tup (pad_cons (pd_lst (pad_cons pd_str pad_nil)) (pad_cons pd_int pad_nil)))))
    pssd_nil)
    (pssd_cons (psd_set (i := 1) sc__law_due.nd rfl (by first | exact Or.inl rfl | exact Or.inr rfl) (pd_op opd_sub pd_int (pd_ct cd_int rfl (g0.at 15) bt_int (pad_cons (pd_cmp (opd_ne hr.units) (pd_ix hr.u1 (pd_var 0) pd_int) pd_str (nomark _)) pad_nil))))
    (pssd_cons (psd_for (passes_of rfl) rfl (pid_range2 rfl (g0.at 1) (pad_cons pd_int (pad_cons (pd_cb cd_len rfl (g0.at 0) bt_len (pad_cons (pd_var 0) pad_nil)) pad_nil))) (pg_name (i := 2) sc__law_due.nd rfl (by first | exact Or.inl rfl | exact Or.inr rfl))
    (pssd_one (psd_if (PW.pt (pwd_or (ptd_cmp opd_ge (pd_var 2) (pd_var 1) (nomark _)) (pwd_or1 (ptd_not (ptd_val (pd_call G__law_right (hr.mono (by decide)) rfl tk (pad_cons (pd_ix hr.u1 (pd_var 0) (pd_var 2)) pad_nil)))))))
    (pssd_one (psd_ret (pd_tup (pad_cons (pd_lst (pad_cons pd_str pad_nil)) (pad_cons (pd_var 2) pad_nil)))))
    pssd_nil)))
    (pssd_cons (psd_if (ptd_cmp opd_lt (pd_cb cd_len rfl (g0.at 0) bt_len (pad_cons (pd_var 0) pad_nil)) (pd_var 1) (nomark _))
    (pssd_one (psd_ret (pd_tup (pad_cons (pd_lst (pad_cons pd_str pad_nil)) (pad_cons (pd_cb cd_len rfl (g0.at 0) bt_len (pad_cons (pd_var 0) pad_nil)) pad_nil)))))
    pssd_nil)
    (pssd_cons (psd_if (ptd_val (pd_cb (cd_all rfl) rfl (g0.at 7) bt_all (pad_cons (pd_lc (own := [("_law_word", 3)]) (T := (.nm 3)) rfl sc__law_due.nd (pid_seq (pd_slice (pd_var 0) (psp_at pd_int) psp_no)) (blkOk_by (N := n__law_due) (sc := defScope s__law_due) (by decide +kernel)) (fun _ _ _ _ _ => (pg_name (i := 3) sc__law_due.nd rfl (by first | exact Or.inl rfl | exact Or.inr rfl))) (fun _ _ _ _ _ => pts_yes') (fun _ _ _ _ _ => (pd_cmp (opd_eq hr.units) (pd_var 3) pd_str (nomark _)))) pad_nil)))
    (pssd_one (psd_ret (pd_tup (pad_cons (pd_lst (pad_cons pd_str pad_nil)) (pad_cons (pd_un opd_neg pd_int) pad_nil)))))
    pssd_nil)
    (pssd_one (psd_ret pd_non)))))))
abbrev n__law_number : List Str := ["_law_cell_here", "_law_kind"]
theorem sc__law_number : FnScope n__law_number ["_law_cell_here", "_law_kind"] (defScope s__law_number) := ⟨rfl, rfl, rfl, by decide +kernel, rfl, by decide +kernel, by decide +kernel⟩
theorem ok__law_number (F : FunD K "_law_number" "_law_number" (defArgs s__law_number) (defBody s__law_number) (defScope s__law_number) [] [] f fd) (g0 : Gs mg) : FnOk P w K mg base (L2.CX P w) 2 f fd ["_law_cell_here", "_law_kind"] (spD K f__law_number) :=
  fn_ok (n := 2) (np := 2) (F := b__law_number) F sc__law_number rfl rfl fun cdv A outer s H E hr => by
    have tk := takes_of (X := cxOf (L2.CX P w) P w K mg base n__law_number "_law_number" (defScope s__law_number) f cdv A outer s H E) rfl rfl rfl rfl
    unfold b__law_number
    exact (pssd_cons (psd_if (ptd_cmp (opd_eq hr.units) (pd_op opd_mod (pd_var 1) pd_int) pd_int (nomark _))
    (pssd_one (psd_ret (pd_op opd_sub (pd_op opd_mod (pd_op opd_mul (pd_var 0) (pd_op opd_pow pd_int pd_int)) (pd_op opd_add (pd_op opd_mul pd_int (pd_op opd_pow pd_int pd_int)) pd_int)) (pd_op opd_pow pd_int pd_int))))
    pssd_nil)
    (pssd_cons (psd_if (ptd_cmp (opd_eq hr.units) (pd_op opd_mod (pd_var 1) pd_int) pd_int (nomark _))
    (pssd_one (psd_ret (pd_op opd_sub (pd_op opd_mod (pd_var 0) pd_int) pd_int)))
    pssd_nil)
    (pssd_one (psd_ret (pd_op opd_sub (pd_op opd_mod (pd_var 0) pd_int) pd_int)))))
abbrev n__law_odd : List Str := ["_law_cell_here", "_law_long", "_law_words"]
theorem sc__law_odd : FnScope n__law_odd ["_law_cell_here"] (defScope s__law_odd) := ⟨rfl, rfl, rfl, by decide +kernel, rfl, by decide +kernel, by decide +kernel⟩
theorem ok__law_odd (F : FunD K "_law_odd" "_law_odd" (defArgs s__law_odd) (defBody s__law_odd) (defScope s__law_odd) [] [] f fd) (g0 : Gs mg) : FnOk P w K mg base (L2.CX P w) 2 f fd ["_law_cell_here"] (spD K f__law_odd) :=
  fn_ok (n := 3) (np := 1) (F := b__law_odd) F sc__law_odd rfl rfl fun cdv A outer s H E hr => by
    have tk := takes_of (X := cxOf (L2.CX P w) P w K mg base n__law_odd "_law_odd" (defScope s__law_odd) f cdv A outer s H E) rfl rfl rfl rfl
    unfold b__law_odd
    exact (pssd_cons (psd_set (i := 1) sc__law_odd.nd rfl (by first | exact Or.inl rfl | exact Or.inr rfl) (pd_op opd_add (pd_op opd_mulS pd_str pd_int) (pd_slice pd_str psp_no (psp_at (pd_op opd_mod (pd_op opd_fdiv (pd_var 0) pd_int) pd_int)))))
    (pssd_cons (psd_set (i := 2) sc__law_odd.nd rfl (by first | exact Or.inl rfl | exact Or.inr rfl) (pd_lst (pad_cons pd_str (pad_cons pd_str (pad_cons pd_str (pad_cons pd_str (pad_cons pd_str (pad_cons pd_str (pad_cons pd_str (pad_cons pd_str (pad_cons pd_str (pad_cons pd_str (pad_cons pd_str (pad_cons pd_str (pad_cons pd_str (pad_cons pd_str (pad_cons pd_str pad_nil)))))))))))))))))
    (pssd_one (psd_ret (pd_ix hr.u1 (pd_op opd_add (pd_var 2) (pd_lst (pad_cons (pd_var 1) (pad_cons (pd_op opd_add pd_str (pd_var 1)) (pad_cons pd_str pad_nil))))) (pd_op opd_mod (pd_var 0) pd_int))))))
abbrev n__law_changed : List Str := ["_law_words", "_law_cell_here", "_law_at", "_law_word"]
theorem sc__law_changed : FnScope n__law_changed ["_law_words", "_law_cell_here"] (defScope s__law_changed) := ⟨rfl, rfl, rfl, by decide +kernel, rfl, by decide +kernel, by decide +kernel⟩
theorem ok__law_changed (F : FunD K "_law_changed" "_law_changed" (defArgs s__law_changed) (defBody s__law_changed) (defScope s__law_changed) [] [] f fd) (g0 : Gs mg) (G__law_odd : Dn P w K mg base "_law_odd" 2 f__law_odd) : FnOk P w K mg base (L2.CX P w) 4 f fd ["_law_words", "_law_cell_here"] (spD K f__law_changed) :=
  fn_ok (n := 4) (np := 2) (F := b__law_changed) F sc__law_changed rfl rfl fun cdv A outer s H E hr => by
    have tk := takes_of (X := cxOf (L2.CX P w) P w K mg base n__law_changed "_law_changed" (defScope s__law_changed) f cdv A outer s H E) rfl rfl rfl rfl
    unfold b__law_changed
    exact (pssd_cons (psd_set (i := 2) sc__law_changed.nd rfl (by first | exact Or.inl rfl | exact Or.inr rfl) (pd_op opd_mod (pd_op opd_fdiv (pd_var 1) pd_int) (pd_cb cd_len rfl (g0.at 0) bt_len (pad_cons (pd_var 0) pad_nil))))
    (pssd_cons (psd_set (i := 3) sc__law_changed.nd rfl (by first | exact Or.inl rfl | exact Or.inr rfl) (pd_call G__law_odd (hr.mono (by decide)) rfl tk (pad_cons (pd_op opd_fdiv (pd_var 1) pd_int) pad_nil)))
    (pssd_cons (psd_if (ptd_cmp (opd_eq hr.units) (pd_op opd_mod (pd_var 1) pd_int) pd_int (nomark _))
    (pssd_one (psd_ret (pd_op opd_add (pd_op opd_add (pd_slice (pd_var 0) psp_no (psp_at (pd_var 2))) (pd_lst (pad_cons (pd_var 3) pad_nil))) (pd_slice (pd_var 0) (psp_at (pd_op opd_add (pd_var 2) pd_int)) psp_no))))
    pssd_nil)
    (pssd_cons (psd_if (PW.pt (pwd_and (ptd_cmp (opd_eq hr.units) (pd_op opd_mod (pd_var 1) pd_int) pd_int (nomark _)) (pwd_and1 (ptd_cmp opd_gt (pd_cb cd_len rfl (g0.at 0) bt_len (pad_cons (pd_var 0) pad_nil)) pd_int (nomark _)))))
    (pssd_one (psd_ret (pd_op opd_add (pd_slice (pd_var 0) psp_no (psp_at (pd_var 2))) (pd_slice (pd_var 0) (psp_at (pd_op opd_add (pd_var 2) pd_int)) psp_no))))
    pssd_nil)
    (pssd_cons (psd_if (ptd_cmp (opd_eq hr.units) (pd_op opd_mod (pd_var 1) pd_int) pd_int (nomark _))
    (pssd_one (psd_ret (pd_op opd_add (pd_op opd_add (pd_slice (pd_var 0) psp_no (psp_at (pd_var 2))) (pd_lst (pad_cons (pd_var 3) pad_nil))) (pd_slice (pd_var 0) (psp_at (pd_var 2)) psp_no))))
    pssd_nil)
    (pssd_one (psd_ret (pd_op opd_add (pd_var 0) (pd_lst (pad_cons (pd_ix hr.u1 (pd_var 0) (pd_var 2)) pad_nil))))))))))
abbrev n_NoText___init__ : List Str := ["self", "at"]
theorem sc_NoText___init__ : FnScope n_NoText___init__ ["self", "at"] (defScope s_NoText___init__) := ⟨rfl, rfl, rfl, by decide +kernel, rfl, by decide +kernel, by decide +kernel⟩
theorem ok_NoText___init__ (F : FunD K "__init__" "NoText.__init__" (defArgs s_NoText___init__) (defBody s_NoText___init__) (defScope s_NoText___init__) [] [] f fd) (hm : mg "SpaceError" = some (.ref (He.ga K "SpaceError"))) (hB : cinB K "SpaceError" = true) : FnOk P w K mg base (L2.CX P w) 2 f fd ["self", "at"] (spX K "at") :=
  fn_xinit (k := 1) (m := "a text that is not well written") F sc_NoText___init__ (fun cdv A outer s H E => pe_cinit rfl hm hB (pa_cons (pe_var (i := 0) rfl (by first | exact Or.inl rfl | exact Or.inr (Or.inl rfl) | exact Or.inr (Or.inr rfl)) (by decide) (by decide)) (pa_cons pe_str pa_nil))) (fun a v H Q q => ⟨_, rfl, q⟩) (fun _ => rfl) (fun _ => rfl) (by first | exact Or.inl rfl | exact Or.inr (Or.inl rfl) | exact Or.inr (Or.inr rfl)) (by decide) (by decide) (by first | exact Or.inl rfl | exact Or.inr (Or.inl rfl) | exact Or.inr (Or.inr rfl)) (by decide) (by decide)
abbrev n_divisor_of : List Str := ["numbers", "found", "other"]
theorem sc_divisor_of : FnScope n_divisor_of ["numbers"] (defScope s_divisor_of) := ⟨rfl, rfl, rfl, by decide +kernel, rfl, by decide +kernel, by decide +kernel⟩
theorem ok_divisor_of (F : FunD K "divisor_of" "divisor_of" (defArgs s_divisor_of) (defBody s_divisor_of) (defScope s_divisor_of) [] [] f fd) (g0 : Gs mg) : FnOk P w K mg base (L2.CX P w) 2 f fd ["numbers"] (spD K f_divisor_of) :=
  fn_ok (n := 3) (np := 1) (F := b_divisor_of) F sc_divisor_of rfl rfl fun cdv A outer s H E hr => by
    have tk := takes_of (X := cxOf (L2.CX P w) P w K mg base n_divisor_of "divisor_of" (defScope s_divisor_of) f cdv A outer s H E) rfl rfl rfl rfl
    unfold b_divisor_of w_divisor_of_1 w_divisor_of_0
    exact (pssd_cons (psd_set (i := 1) sc_divisor_of.nd rfl (by first | exact Or.inl rfl | exact Or.inr rfl) pd_int)
    (pssd_cons (psd_for (passes_of rfl) rfl (pid_seq (pd_var 0)) (pg_name (i := 2) sc_divisor_of.nd rfl (by first | exact Or.inl rfl | exact Or.inr rfl))
    (pssd_one (psd_while (passes_of rfl) (ptd_cmp (opd_ne hr.units) (pd_var 2) pd_int (nomark _))
    (pssd_one (psd_par (i := 1) (j := 2) rfl sc_divisor_of.nd rfl rfl (by decide) rfl rfl (pad_cons (pd_var 2) (pad_cons (pd_op opd_mod (pd_var 1) (pd_var 2)) pad_nil)) rfl)))))
    (pssd_one (psd_ret (pd_cb cd_abs rfl (g0.at 9) bt_abs (pad_cons (pd_var 1) pad_nil))))))
abbrev n_as_told : List Str := ["numbers", "by", "number", "first"]
theorem sc_as_told : FnScope n_as_told ["numbers"] (defScope s_as_told) := ⟨rfl, rfl, rfl, by decide +kernel, rfl, by decide +kernel, by decide +kernel⟩
theorem ok_as_told (F : FunD K "as_told" "as_told" (defArgs s_as_told) (defBody s_as_told) (defScope s_as_told) [] [] f fd) (g0 : Gs mg) (G_divisor_of : Dn P w K mg base "divisor_of" 2 f_divisor_of) (XR_Nought : XcT K mg "Nought") : FnOk P w K mg base (L2.CX P w) 4 f fd ["numbers"] (spD K f_as_told) :=
  fn_ok (n := 4) (np := 1) (F := b_as_told) F sc_as_told rfl rfl fun cdv A outer s H E hr => by
    have tk := takes_of (X := cxOf (L2.CX P w) P w K mg base n_as_told "as_told" (defScope s_as_told) f cdv A outer s H E) rfl rfl rfl rfl
    unfold b_as_told e_as_told_0 w_as_told_0
    exact (pssd_cons (psd_set (i := 1) sc_as_told.nd rfl (by first | exact Or.inl rfl | exact Or.inr rfl) (pd_call G_divisor_of (hr.mono (by decide)) rfl tk (pad_cons (pd_var 0) pad_nil)))
    (pssd_cons (psd_if (ptd_cmp (opd_eq hr.units) (pd_var 1) pd_int (nomark _))
    (pssd_one (psd_raise XR_Nought rfl tk rfl))
    pssd_nil)
    (pssd_cons (psd_for (passes_of rfl) rfl (pid_rev rfl (g0.at 4) (pd_var 0)) (pg_name (i := 2) sc_as_told.nd rfl (by first | exact Or.inl rfl | exact Or.inr rfl))
    (pssd_one (psd_if (ptd_cmp (opd_ne hr.units) (pd_var 2) pd_int (nomark _))
    (pssd_one (psd_set (i := 3) sc_as_told.nd rfl (by first | exact Or.inl rfl | exact Or.inr rfl) (pd_var 2)))
    pssd_nil)))
    (pssd_cons (psd_if (ptd_cmp opd_lt (pd_var 3) pd_int (nomark _))
    (pssd_one (psd_set (i := 1) sc_as_told.nd rfl (by first | exact Or.inl rfl | exact Or.inr rfl) (pd_op opd_sub pd_int (pd_var 1))))
    pssd_nil)
    (pssd_one (psd_ret (pd_ct cd_tuple rfl (g0.at 13) bt_tuple (pad_cons (pd_lc (own := [("number", 2)]) (T := (.nm 2)) rfl sc_as_told.nd (pid_seq (pd_var 0)) (blkOk_by (N := n_as_told) (sc := defScope s_as_told) (by decide +kernel)) (fun _ _ _ _ _ => (pg_name (i := 2) sc_as_told.nd rfl (by first | exact Or.inl rfl | exact Or.inr rfl))) (fun _ _ _ _ _ => pts_yes') (fun _ _ _ _ _ => (pd_op opd_fdiv (pd_var 2) (pd_var 1)))) pad_nil))))))))
abbrev n_Mirror___init__ : List Str := ["self", "axis"]
theorem sc_Mirror___init__ : FnScope n_Mirror___init__ ["self", "axis"] (defScope s_Mirror___init__) := ⟨rfl, rfl, rfl, by decide +kernel, rfl, by decide +kernel, by decide +kernel⟩
theorem ok_Mirror___init__ (F : FunD K "__init__" "Mirror.__init__" (defArgs s_Mirror___init__) (defBody s_Mirror___init__) (defScope s_Mirror___init__) [] [] f fd) (g0 : Gs mg) (G_as_told : Dn P w K mg base "as_told" 4 f_as_told) : FnOk P w K mg base (L2.CX P w) 6 f fd ["self", "axis"] (spI K "kept" f_Mirror___init__) :=
  fn_init (n := 1) (np := 1) (F := b_Mirror___init__) F sc_Mirror___init__ rfl rfl rfl (by first | exact Or.inl rfl | exact Or.inr (Or.inl rfl) | exact Or.inr (Or.inr rfl)) (by decide) (by decide) (fun _ => rfl) fun cdv A outer s H E hr => by
    have tk := takes_of (X := cxOf (L2.CX P w) P w K mg base n_Mirror___init__ "Mirror.__init__" (defScope s_Mirror___init__) f cdv A outer s H E) rfl rfl rfl rfl
    unfold b_Mirror___init__
    exact (pd_call G_as_told (hr.mono (by decide)) rfl tk (pad_cons (pd_var 1) pad_nil))
abbrev n_Turn___init__ : List Str := ["self", "numbers"]
theorem sc_Turn___init__ : FnScope n_Turn___init__ ["self", "numbers"] (defScope s_Turn___init__) := ⟨rfl, rfl, rfl, by decide +kernel, rfl, by decide +kernel, by decide +kernel⟩
theorem ok_Turn___init__ (F : FunD K "__init__" "Turn.__init__" (defArgs s_Turn___init__) (defBody s_Turn___init__) (defScope s_Turn___init__) [] [] f fd) (g0 : Gs mg) (G_as_told : Dn P w K mg base "as_told" 4 f_as_told) : FnOk P w K mg base (L2.CX P w) 6 f fd ["self", "numbers"] (spI K "kept" f_Turn___init__) :=
  fn_init (n := 1) (np := 1) (F := b_Turn___init__) F sc_Turn___init__ rfl rfl rfl (by first | exact Or.inl rfl | exact Or.inr (Or.inl rfl) | exact Or.inr (Or.inr rfl)) (by decide) (by decide) (fun _ => rfl) fun cdv A outer s H E hr => by
    have tk := takes_of (X := cxOf (L2.CX P w) P w K mg base n_Turn___init__ "Turn.__init__" (defScope s_Turn___init__) f cdv A outer s H E) rfl rfl rfl rfl
    unfold b_Turn___init__
    exact (pd_call G_as_told (hr.mono (by decide)) rfl tk (pad_cons (pd_var 1) pad_nil))
abbrev n_HalfTurn___init__ : List Str := ["self", "axis"]
theorem sc_HalfTurn___init__ : FnScope n_HalfTurn___init__ ["self", "axis"] (defScope s_HalfTurn___init__) := ⟨rfl, rfl, rfl, by decide +kernel, rfl, by decide +kernel, by decide +kernel⟩
theorem ok_HalfTurn___init__ (F : FunD K "__init__" "HalfTurn.__init__" (defArgs s_HalfTurn___init__) (defBody s_HalfTurn___init__) (defScope s_HalfTurn___init__) [] [] f fd) (g0 : Gs mg) (G_as_told : Dn P w K mg base "as_told" 4 f_as_told) : FnOk P w K mg base (L2.CX P w) 6 f fd ["self", "axis"] (spI K "kept" f_HalfTurn___init__) :=
  fn_init (n := 1) (np := 1) (F := b_HalfTurn___init__) F sc_HalfTurn___init__ rfl rfl rfl (by first | exact Or.inl rfl | exact Or.inr (Or.inl rfl) | exact Or.inr (Or.inr rfl)) (by decide) (by decide) (fun _ => rfl) fun cdv A outer s H E hr => by
    have tk := takes_of (X := cxOf (L2.CX P w) P w K mg base n_HalfTurn___init__ "HalfTurn.__init__" (defScope s_HalfTurn___init__) f cdv A outer s H E) rfl rfl rfl rfl
    unfold b_HalfTurn___init__
    exact (pd_call G_as_told (hr.mono (by decide)) rfl tk (pad_cons (pd_var 1) pad_nil))
abbrev n_writes_whole : List Str := ["word", "figures", "sign"]
theorem sc_writes_whole : FnScope n_writes_whole ["word"] (defScope s_writes_whole) := ⟨rfl, rfl, rfl, by decide +kernel, rfl, by decide +kernel, by decide +kernel⟩
theorem ok_writes_whole (F : FunD K "writes_whole" "writes_whole" (defArgs s_writes_whole) (defBody s_writes_whole) (defScope s_writes_whole) [] [] f fd) (g0 : Gs mg) (c_MOST_FIGURES : Cn mg K "MOST_FIGURES" (.int 40)) : FnOk P w K mg base (L2.CX P w) 2 f fd ["word"] (spD K f_writes_whole) :=
  fn_ok (n := 3) (np := 1) (F := b_writes_whole) F sc_writes_whole rfl rfl fun cdv A outer s H E hr => by
    have tk := takes_of (X := cxOf (L2.CX P w) P w K mg base n_writes_whole "writes_whole" (defScope s_writes_whole) f cdv A outer s H E) rfl rfl rfl rfl
    unfold b_writes_whole e_writes_whole_0
    exact (pssd_cons (psd_set (i := 1) sc_writes_whole.nd rfl (by first | exact Or.inl rfl | exact Or.inr rfl) (pd_var 0))
    (pssd_cons (psd_if (ptd_val (pd_starts (pd_var 0) pd_str))
    (pssd_one (psd_set (i := 1) sc_writes_whole.nd rfl (by first | exact Or.inl rfl | exact Or.inr rfl) (pd_slice (pd_var 0) (psp_at pd_int) psp_no)))
    pssd_nil)
    (pssd_cons (psd_if (PW.pt (pwd_or (ptd_cmp (opd_eq hr.units) (pd_cb cd_len rfl (g0.at 0) bt_len (pad_cons (pd_var 1) pad_nil)) pd_int (nomark _)) (pwd_or (ptd_cmp opd_gt (pd_cb cd_len rfl (g0.at 0) bt_len (pad_cons (pd_var 1) pad_nil)) (pd_cn c_MOST_FIGURES rfl) (nomark _)) (pwd_or1 (ptd_cmp (opd_eq hr.units) (pd_var 0) pd_str (nomark _))))))
    (pssd_one (psd_ret pd_bl))
    pssd_nil)
    (pssd_cons (psd_if (PW.pt (pwd_and (ptd_cmp (opd_eq hr.units) (pd_ix hr.u1 (pd_var 1) pd_int) pd_str (nomark _)) (pwd_and1 (ptd_cmp opd_gt (pd_cb cd_len rfl (g0.at 0) bt_len (pad_cons (pd_var 1) pad_nil)) pd_int (nomark _)))))
    (pssd_one (psd_ret pd_bl))
    pssd_nil)
    (pssd_one (psd_ret (pd_cb (cd_all rfl) rfl (g0.at 7) bt_all (pad_cons (pd_lc (own := [("sign", 2)]) (T := (.nm 2)) rfl sc_writes_whole.nd (pid_seq (pd_var 1)) (blkOk_by (N := n_writes_whole) (sc := defScope s_writes_whole) (by decide +kernel)) (fun _ _ _ _ _ => (pg_name (i := 2) sc_writes_whole.nd rfl (by first | exact Or.inl rfl | exact Or.inr rfl))) (fun _ _ _ _ _ => pts_yes') (fun _ _ _ _ _ => (pd_cmp (opd_in hr.u65) (pd_var 2) pd_str (by rfl)))) pad_nil))))))))
abbrev n_deed_read : List Str := ["text", "words", "many", "at", "word", "numbers"]
theorem sc_deed_read : FnScope n_deed_read ["text"] (defScope s_deed_read) := ⟨rfl, rfl, rfl, by decide +kernel, rfl, by decide +kernel, by decide +kernel⟩
theorem ok_deed_read (F : FunD K "deed_read" "deed_read" (defArgs s_deed_read) (defBody s_deed_read) (defScope s_deed_read) [] [] f fd) (g0 : Gs mg) (G_writes_whole : Dn P w K mg base "writes_whole" 2 f_writes_whole) (I_HalfTurn : Mi P w K mg base "HalfTurn" "kept" 6 f_HalfTurn___init__) (I_Mirror : Mi P w K mg base "Mirror" "kept" 6 f_Mirror___init__) (I_Turn : Mi P w K mg base "Turn" "kept" 6 f_Turn___init__) (XO_NoText : Xi P w K mg base "NoText" "at" 2) (T_COUNTS : Kt mg K w "COUNTS" kt_COUNTS) (U_COUNTS : tabAll K "COUNTS" kt_COUNTS = true) : FnOk P w K mg base (L2.CX P w) 9 f fd ["text"] (spD K f_deed_read) :=
  fn_ok (n := 6) (np := 1) (F := b_deed_read) F sc_deed_read rfl rfl fun cdv A outer s H E hr => by
    have tk := takes_of (X := cxOf (L2.CX P w) P w K mg base n_deed_read "deed_read" (defScope s_deed_read) f cdv A outer s H E) rfl rfl rfl rfl
    unfold b_deed_read e_deed_read_0 w_deed_read_0
    exact (pssd_cons (psd_set (i := 1) sc_deed_read.nd rfl (by first | exact Or.inl rfl | exact Or.inr rfl) (pd_split (pd_var 0) pd_str))
    (pssd_cons (psd_if (ptd_notKf T_COUNTS U_COUNTS rfl (pd_ix hr.u1 (pd_var 1) pd_int) (by rfl))
    (pssd_one (psd_raiseF XO_NoText rfl tk (hr.mono (by decide)) rfl pd_int))
    pssd_nil)
    (pssd_cons (psd_set (i := 2) sc_deed_read.nd rfl (by first | exact Or.inl rfl | exact Or.inr rfl) (pd_ixK T_COUNTS rfl (pd_ix hr.u1 (pd_var 1) pd_int)))
    (pssd_cons (psd_for (passes_of rfl) rfl (pid_enumA rfl (g0.at 3) (pad_cons (pd_var 1) pad_nil)) (pg_tup rfl (pgs_cons (pg_name (i := 3) sc_deed_read.nd rfl (by first | exact Or.inl rfl | exact Or.inr rfl)) (pgs_cons (pg_name (i := 4) sc_deed_read.nd rfl (by first | exact Or.inl rfl | exact Or.inr rfl)) pgs_nil)))
    (pssd_one (psd_if (PW.pt (pwd_or (ptd_cmp opd_gt (pd_var 3) (pd_var 2) (nomark _)) (pwd_or1 (PW.pt (pwd_and (ptd_cmp opd_gt (pd_var 3) pd_int (nomark _)) (pwd_and1 (ptd_not (ptd_val (pd_call G_writes_whole (hr.mono (by decide)) rfl tk (pad_cons (pd_var 4) pad_nil))))))))))
    (pssd_one (psd_raiseF XO_NoText rfl tk (hr.mono (by decide)) rfl (pd_var 3)))
    pssd_nil)))
    (pssd_cons (psd_if (ptd_cmp opd_le (pd_cb cd_len rfl (g0.at 0) bt_len (pad_cons (pd_var 1) pad_nil)) (pd_var 2) (nomark _))
    (pssd_one (psd_raiseF XO_NoText rfl tk (hr.mono (by decide)) rfl (pd_cb cd_len rfl (g0.at 0) bt_len (pad_cons (pd_var 1) pad_nil))))
    pssd_nil)
    (pssd_cons (psd_set (i := 5) sc_deed_read.nd rfl (by first | exact Or.inl rfl | exact Or.inr rfl) (pd_ct cd_tuple rfl (g0.at 13) bt_tuple (pad_cons (pd_lc (own := [("word", 4)]) (T := (.nm 4)) rfl sc_deed_read.nd (pid_seq (pd_slice (pd_var 1) (psp_at pd_int) psp_no)) (blkOk_by (N := n_deed_read) (sc := defScope s_deed_read) (by decide +kernel)) (fun _ _ _ _ _ => (pg_name (i := 4) sc_deed_read.nd rfl (by first | exact Or.inl rfl | exact Or.inr rfl))) (fun _ _ _ _ _ => pts_yes') (fun _ _ _ _ _ => (pd_ct cd_int rfl (g0.at 15) bt_int (pad_cons (pd_var 4) pad_nil)))) pad_nil)))
    (pssd_cons (psd_if (ptd_cmp (opd_eq hr.units) (pd_ix hr.u1 (pd_var 1) pd_int) pd_str (nomark _))
    (pssd_one (psd_ret (pd_make I_Turn (hr.mono (by decide)) rfl tk (pad_cons (pd_var 5) pad_nil))))
    pssd_nil)
    (pssd_cons (psd_if (ptd_cmp (opd_eq hr.units) (pd_ix hr.u1 (pd_var 1) pd_int) pd_str (nomark _))
    (pssd_one (psd_ret (pd_make I_HalfTurn (hr.mono (by decide)) rfl tk (pad_cons (pd_var 5) pad_nil))))
    pssd_nil)
    (pssd_one (psd_ret (pd_make I_Mirror (hr.mono (by decide)) rfl tk (pad_cons (pd_var 5) pad_nil))))))))))))
abbrev n__law_kinds : List Str := ["_law_error", "_law_told", "_law_names", "_law_found", "_law_k"]
theorem sc__law_kinds : FnScope n__law_kinds ["_law_error"] (defScope s__law_kinds) := ⟨rfl, rfl, rfl, by decide +kernel, rfl, by decide +kernel, by decide +kernel⟩
theorem ok__law_kinds (F : FunD K "_law_kinds" "_law_kinds" (defArgs s__law_kinds) (defBody s__law_kinds) (defScope s__law_kinds) [] [] f fd) (g0 : Gs mg) (XI_Divided : IsX K mg "Divided" xb_Divided) (XI_NoLine : IsX K mg "NoLine" xb_NoLine) (XI_NoName : IsX K mg "NoName" xb_NoName) (XI_NoOrder : IsX K mg "NoOrder" xb_NoOrder) (XI_NoPrime : IsX K mg "NoPrime" xb_NoPrime) (XI_NoSide : IsX K mg "NoSide" xb_NoSide) (XI_NoText : IsX K mg "NoText" xb_NoText) (XI_NoTurn : IsX K mg "NoTurn" xb_NoTurn) (XI_Nought : IsX K mg "Nought" xb_Nought) (XI_SpaceError : IsX K mg "SpaceError" xb_SpaceError) (XI_TooGreat : IsX K mg "TooGreat" xb_TooGreat) (XJ_ValueError : IsXt K "ValueError" xb_ValueError) (FV_ValueError : mg "ValueError" = none) : FnOk P w K mg base (L2.CX P w) 2 f fd ["_law_error"] (spD K f__law_kinds) :=
  fn_ok (n := 5) (np := 1) (F := b__law_kinds) F sc__law_kinds rfl rfl fun cdv A outer s H E hr => by
    have tk := takes_of (X := cxOf (L2.CX P w) P w K mg base n__law_kinds "_law_kinds" (defScope s__law_kinds) f cdv A outer s H E) rfl rfl rfl rfl
    unfold b__law_kinds e__law_kinds_0
    exact (pssd_cons (psd_set (i := 1) sc__law_kinds.nd rfl (by first | exact Or.inl rfl | exact Or.inr rfl) (pd_lst (pad_cons (pd_isX XI_NoSide rfl (g0.at 19) rfl (pd_var 0)) (pad_cons (pd_isX XI_Nought rfl (g0.at 19) rfl (pd_var 0)) (pad_cons (pd_isX XI_TooGreat rfl (g0.at 19) rfl (pd_var 0)) pad_nil)))))
    (pssd_cons (psd_set (i := 1) sc__law_kinds.nd rfl (by first | exact Or.inl rfl | exact Or.inr rfl) (pd_op opd_add (pd_var 1) (pd_lst (pad_cons (pd_isX XI_NoPrime rfl (g0.at 19) rfl (pd_var 0)) (pad_cons (pd_isX XI_NoLine rfl (g0.at 19) rfl (pd_var 0)) (pad_cons (pd_isX XI_NoText rfl (g0.at 19) rfl (pd_var 0)) pad_nil))))))
    (pssd_cons (psd_set (i := 1) sc__law_kinds.nd rfl (by first | exact Or.inl rfl | exact Or.inr rfl) (pd_op opd_add (pd_var 1) (pd_lst (pad_cons (pd_isX XI_NoOrder rfl (g0.at 19) rfl (pd_var 0)) (pad_cons (pd_isX XI_Divided rfl (g0.at 19) rfl (pd_var 0)) pad_nil)))))
    (pssd_cons (psd_set (i := 1) sc__law_kinds.nd rfl (by first | exact Or.inl rfl | exact Or.inr rfl) (pd_op opd_add (pd_var 1) (pd_lst (pad_cons (pd_isX XI_NoTurn rfl (g0.at 19) rfl (pd_var 0)) (pad_cons (pd_isX XI_NoName rfl (g0.at 19) rfl (pd_var 0)) pad_nil)))))
    (pssd_cons (psd_set (i := 2) sc__law_kinds.nd rfl (by first | exact Or.inl rfl | exact Or.inr rfl) (pd_lst (pad_cons pd_str (pad_cons pd_str (pad_cons pd_str (pad_cons pd_str (pad_cons pd_str (pad_cons pd_str (pad_cons pd_str (pad_cons pd_str (pad_cons pd_str (pad_cons pd_str pad_nil))))))))))))
    (pssd_cons (psd_setLc (own := [("_law_k", 4)]) (T := (.nm 4)) (i := 3) rfl sc__law_kinds.nd rfl rfl (sw_true rfl rfl rfl (by decide +kernel)) (pid_range1 rfl (g0.at 1) (pad_cons pd_int pad_nil)) (blkOk_by (N := n__law_kinds) (sc := defScope s__law_kinds) (by decide +kernel)) (fun _ _ _ _ _ => (pg_name (i := 4) sc__law_kinds.nd rfl (by first | exact Or.inl rfl | exact Or.inr rfl))) (fun _ _ _ _ _ => pts_d (ptd_val (pd_ix hr.u1 (pd_var 1) (pd_var 4)))) (fun _ _ _ _ _ => (pd_ix hr.u1 (pd_var 2) (pd_var 4))))
    (pssd_cons (psd_if (PW.pt (pwd_or (ptd_not (ptd_val (pd_isX XI_SpaceError rfl (g0.at 19) rfl (pd_var 0)))) (pwd_or1 (ptd_not (ptd_val (pd_isXt XJ_ValueError rfl (g0.at 19) rfl FV_ValueError bv_ValueError (by decide +kernel) (pd_var 0)))))))
    (pssd_one (psd_app (pe_bm PySem.F.plainAttrs_list PySem.F.slot_list_append PySem.F.type_list_append mt_append (pv 3) (pa_cons pd_str pa_nil))))
    pssd_nil)
    (pssd_one (psd_retV 3)))))))))
abbrev n__law_whole : List Str := ["_law_x"]
theorem sc__law_whole : FnScope n__law_whole ["_law_x"] (defScope s__law_whole) := ⟨rfl, rfl, rfl, by decide +kernel, rfl, by decide +kernel, by decide +kernel⟩
theorem ok__law_whole (F : FunD K "_law_whole" "_law_whole" (defArgs s__law_whole) (defBody s__law_whole) (defScope s__law_whole) [] [] f fd) (g0 : Gs mg) : FnOk P w K mg base (L2.CX P w) 2 f fd ["_law_x"] (spD K f__law_whole) :=
  fn_ok (n := 1) (np := 1) (F := b__law_whole) F sc__law_whole rfl rfl fun cdv A outer s H E hr => by
    have tk := takes_of (X := cxOf (L2.CX P w) P w K mg base n__law_whole "_law_whole" (defScope s__law_whole) f cdv A outer s H E) rfl rfl rfl rfl
    unfold b__law_whole
    exact (pssd_one (psd_ret (pd_and (pd_is is_int rfl (g0.at 19) rfl (g0.at 15) bt_int (by decide +kernel) (by decide +kernel) (pd_var 0)) (pd_one (pd_not (pd_is is_bool rfl (g0.at 19) rfl (g0.at 17) bt_bool (by decide +kernel) (by decide +kernel) (pd_var 0)))))))
abbrev n__law_refused : List Str := ["_law_text", "_law_told", "_law_at", "e"]
theorem sc__law_refused : FnScope n__law_refused ["_law_text"] (defScope s__law_refused) := ⟨rfl, rfl, rfl, by decide +kernel, rfl, by decide +kernel, by decide +kernel⟩
theorem ok__law_refused (F : FunD K "_law_refused" "_law_refused" (defArgs s__law_refused) (defBody s__law_refused) (defScope s__law_refused) [] [] f fd) (g0 : Gs mg) (G__law_kinds : Dn P w K mg base "_law_kinds" 2 f__law_kinds) (G__law_whole : Dn P w K mg base "_law_whole" 2 f__law_whole) (G_deed_read : Dn P w K mg base "deed_read" 9 f_deed_read) (XT_NoText : XcC K mg "NoText" xc_NoText) (XT_Nought : XcC K mg "Nought" xc_Nought) (XF_at : XfT K "at" xf_at) : FnOk P w K mg base (L2.CX P w) 11 f fd ["_law_text"] (spD K f__law_refused) :=
  fn_ok (n := 4) (np := 1) (F := b__law_refused) F sc__law_refused rfl rfl fun cdv A outer s H E hr => by
    have tk := takes_of (X := cxOf (L2.CX P w) P w K mg base n__law_refused "_law_refused" (defScope s__law_refused) f cdv A outer s H E) rfl rfl rfl rfl
    unfold b__law_refused
    exact (pssd_cons (psd_set (i := 1) sc__law_refused.nd rfl (by first | exact Or.inl rfl | exact Or.inr rfl) pd_non)
    (pssd_cons (psd_set (i := 2) sc__law_refused.nd rfl (by first | exact Or.inl rfl | exact Or.inr rfl) (pd_un opd_neg pd_int))
    (pssd_cons (psd_try2 (ie := 3) (iy := 1) (iz := 2) rfl rfl sc__law_refused.nd rfl rfl rfl (by first | exact Or.inl rfl | exact Or.inr rfl) (.inl rfl) rfl (by first | exact Or.inl rfl | exact Or.inr rfl) (.inl rfl) (by first | exact Or.inl rfl | exact Or.inr (Or.inl rfl) | exact Or.inr (Or.inr rfl)) (by decide) (by decide) (by decide) XT_NoText XT_Nought XF_at rfl rfl tk fun _ _ _ tk =>
    (pssd_one (psd_expr (pd_call G_deed_read (hr.mono (by decide)) rfl tk (pad_cons (pd_var 0) pad_nil)))))
    (pssd_cons (psd_if (PW.pt (pwd_or (ptd_cmp opd_is (pd_var 1) pd_non (nomark _)) (pwd_or1 (ptd_not (ptd_val (pd_call G__law_whole (hr.mono (by decide)) rfl tk (pad_cons (pd_var 2) pad_nil)))))))
    (pssd_one (psd_ret pd_non))
    pssd_nil)
    (pssd_one (psd_ret (pd_tup (pad_cons (pd_call G__law_kinds (hr.mono (by decide)) rfl tk (pad_cons (pd_var 1) pad_nil)) (pad_cons (pd_var 2) pad_nil)))))))))
abbrev n_words_of : List Str := ["word", "numbers", "number"]
theorem sc_words_of : FnScope n_words_of ["word", "numbers"] (defScope s_words_of) := ⟨rfl, rfl, rfl, by decide +kernel, rfl, by decide +kernel, by decide +kernel⟩
theorem ok_words_of (F : FunD K "words_of" "words_of" (defArgs s_words_of) (defBody s_words_of) (defScope s_words_of) [] [] f fd) (g0 : Gs mg) : FnOk P w K mg base (L2.CX P w) 2 f fd ["word", "numbers"] (spD K f_words_of) :=
  fn_ok (n := 3) (np := 2) (F := b_words_of) F sc_words_of rfl rfl fun cdv A outer s H E hr => by
    have tk := takes_of (X := cxOf (L2.CX P w) P w K mg base n_words_of "words_of" (defScope s_words_of) f cdv A outer s H E) rfl rfl rfl rfl
    unfold b_words_of e_words_of_0
    exact (pssd_one (psd_ret (pd_join pd_str (pd_op opd_add (pd_lst (pad_cons (pd_var 0) pad_nil)) (pd_lc (own := [("number", 2)]) (T := (.nm 2)) rfl sc_words_of.nd (pid_seq (pd_var 1)) (blkOk_by (N := n_words_of) (sc := defScope s_words_of) (by decide +kernel)) (fun _ _ _ _ _ => (pg_name (i := 2) sc_words_of.nd rfl (by first | exact Or.inl rfl | exact Or.inr rfl))) (fun _ _ _ _ _ => pts_yes') (fun _ _ _ _ _ => (pd_ct cd_str rfl (g0.at 16) bt_str (pad_cons (pd_var 2) pad_nil))))))))
abbrev n_Turn_told : List Str := ["self"]
theorem sc_Turn_told : FnScope n_Turn_told ["self"] (defScope s_Turn_told) := ⟨rfl, rfl, rfl, by decide +kernel, rfl, by decide +kernel, by decide +kernel⟩
theorem ok_Turn_told (F : FunD K "told" "Turn.told" (defArgs s_Turn_told) (defBody s_Turn_told) (defScope s_Turn_told) [] [] f fd) (g0 : Gs mg) (G_words_of : Dn P w K mg base "words_of" 2 f_words_of) (hF_kept : ∀ C ∈ cs_kept, Cls K (He.ga K C) ∧ NoAttr K (He.ga K C) "kept") : FnOk P w K mg base (L2.CX P w) 4 f fd ["self"] (spD K f_Turn_told) :=
  fn_ok (n := 1) (np := 1) (F := b_Turn_told) F sc_Turn_told rfl rfl fun cdv A outer s H E hr => by
    have tk := takes_of (X := cxOf (L2.CX P w) P w K mg base n_Turn_told "Turn.told" (defScope s_Turn_told) f cdv A outer s H E) rfl rfl rfl rfl
    unfold b_Turn_told
    exact (pssd_one (psd_ret (pd_call G_words_of (hr.mono (by decide)) rfl tk (pad_cons pd_str (pad_cons (pd_fld hF_kept (pd_var 0)) pad_nil)))))
abbrev n_HalfTurn_told : List Str := ["self"]
theorem sc_HalfTurn_told : FnScope n_HalfTurn_told ["self"] (defScope s_HalfTurn_told) := ⟨rfl, rfl, rfl, by decide +kernel, rfl, by decide +kernel, by decide +kernel⟩
theorem ok_HalfTurn_told (F : FunD K "told" "HalfTurn.told" (defArgs s_HalfTurn_told) (defBody s_HalfTurn_told) (defScope s_HalfTurn_told) [] [] f fd) (g0 : Gs mg) (G_words_of : Dn P w K mg base "words_of" 2 f_words_of) (hF_kept : ∀ C ∈ cs_kept, Cls K (He.ga K C) ∧ NoAttr K (He.ga K C) "kept") : FnOk P w K mg base (L2.CX P w) 4 f fd ["self"] (spD K f_HalfTurn_told) :=
  fn_ok (n := 1) (np := 1) (F := b_HalfTurn_told) F sc_HalfTurn_told rfl rfl fun cdv A outer s H E hr => by
    have tk := takes_of (X := cxOf (L2.CX P w) P w K mg base n_HalfTurn_told "HalfTurn.told" (defScope s_HalfTurn_told) f cdv A outer s H E) rfl rfl rfl rfl
    unfold b_HalfTurn_told
    exact (pssd_one (psd_ret (pd_call G_words_of (hr.mono (by decide)) rfl tk (pad_cons pd_str (pad_cons (pd_fld hF_kept (pd_var 0)) pad_nil)))))
abbrev n_Mirror_told : List Str := ["self"]
theorem sc_Mirror_told : FnScope n_Mirror_told ["self"] (defScope s_Mirror_told) := ⟨rfl, rfl, rfl, by decide +kernel, rfl, by decide +kernel, by decide +kernel⟩
theorem ok_Mirror_told (F : FunD K "told" "Mirror.told" (defArgs s_Mirror_told) (defBody s_Mirror_told) (defScope s_Mirror_told) [] [] f fd) (g0 : Gs mg) (G_words_of : Dn P w K mg base "words_of" 2 f_words_of) (hF_kept : ∀ C ∈ cs_kept, Cls K (He.ga K C) ∧ NoAttr K (He.ga K C) "kept") : FnOk P w K mg base (L2.CX P w) 4 f fd ["self"] (spD K f_Mirror_told) :=
  fn_ok (n := 1) (np := 1) (F := b_Mirror_told) F sc_Mirror_told rfl rfl fun cdv A outer s H E hr => by
    have tk := takes_of (X := cxOf (L2.CX P w) P w K mg base n_Mirror_told "Mirror.told" (defScope s_Mirror_told) f cdv A outer s H E) rfl rfl rfl rfl
    unfold b_Mirror_told
    exact (pssd_one (psd_ret (pd_call G_words_of (hr.mono (by decide)) rfl tk (pad_cons pd_str (pad_cons (pd_fld hF_kept (pd_var 0)) pad_nil)))))
abbrev n_law : List Str := ["_law_script", "_law_kind", "_law_words", "_law_k", "_law_number_here", "_law_text", "_law_due_here"]
theorem sc_law : FnScope n_law ["_law_script"] (defScope s_law) := ⟨rfl, rfl, rfl, by decide +kernel, rfl, by decide +kernel, by decide +kernel⟩
theorem ok_law (F : FunD K "law" "law" (defArgs s_law) (defBody s_law) (defScope s_law) [] [] f fd) (g0 : Gs mg) (G__law_cell : Dn P w K mg base "_law_cell" 2 f__law_cell) (G__law_changed : Dn P w K mg base "_law_changed" 4 f__law_changed) (G__law_due : Dn P w K mg base "_law_due" 4 f__law_due) (G__law_number : Dn P w K mg base "_law_number" 2 f__law_number) (G__law_refused : Dn P w K mg base "_law_refused" 11 f__law_refused) (G_deed_read : Dn P w K mg base "deed_read" 9 f_deed_read) (hM_told : ∀ q ∈ tb_told, Mt P w K mg base q.1 "told" 4 q.2) : FnOk P w K mg base (L2.CX P w) 13 f fd ["_law_script"] (spD K f_law) :=
  fn_ok (n := 7) (np := 1) (F := b_law) F sc_law rfl rfl fun cdv A outer s H E hr => by
    have tk := takes_of (X := cxOf (L2.CX P w) P w K mg base n_law "law" (defScope s_law) f cdv A outer s H E) rfl rfl rfl rfl
    unfold b_law w_law_1 w_law_0
    exact (pssd_cons (psd_set (i := 1) sc_law.nd rfl (by first | exact Or.inl rfl | exact Or.inr rfl) (pd_call G__law_cell (hr.mono (by decide)) rfl tk (pad_cons (pd_var 0) (pad_cons pd_int pad_nil))))
    (pssd_cons (psd_set (i := 2) sc_law.nd rfl (by first | exact Or.inl rfl | exact Or.inr rfl) (pd_lst (pad_cons (pd_ix hr.u1 (pd_tup (pad_cons pd_str (pad_cons pd_str (pad_cons pd_str pad_nil)))) (pd_op opd_mod (pd_var 1) pd_int)) pad_nil)))
    (pssd_cons (psd_for (passes_of rfl) rfl (pid_range1 rfl (g0.at 1) (pad_cons (pd_ix hr.u1 (pd_tup (pad_cons pd_int (pad_cons pd_int (pad_cons pd_int pad_nil)))) (pd_op opd_mod (pd_var 1) pd_int)) pad_nil)) (pg_name (i := 3) sc_law.nd rfl (by first | exact Or.inl rfl | exact Or.inr rfl))
    (pssd_cons (psd_set (i := 4) sc_law.nd rfl (by first | exact Or.inl rfl | exact Or.inr rfl) (pd_call G__law_number (hr.mono (by decide)) rfl tk (pad_cons (pd_call G__law_cell (hr.mono (by decide)) rfl tk (pad_cons (pd_var 0) (pad_cons (pd_op opd_add pd_int (pd_var 3)) pad_nil))) (pad_cons (pd_op opd_fdiv (pd_var 1) pd_int) pad_nil))))
    (pssd_one (psd_app (pe_bm PySem.F.plainAttrs_list PySem.F.slot_list_append PySem.F.type_list_append mt_append (pv 2) (pa_cons (pd_ct cd_str rfl (g0.at 16) bt_str (pad_cons (pd_op opd_mul (pd_var 4) (pd_ct cd_int rfl (g0.at 15) bt_int (pad_cons (pd_cmp opd_gt (pd_op opd_mod (pd_op opd_fdiv (pd_var 1) pd_int) pd_int) pd_int (nomark _)) pad_nil))) pad_nil)) pa_nil))))))
    (pssd_cons (psd_for (passes_of rfl) rfl (pid_range1 rfl (g0.at 1) (pad_cons (pd_op opd_mod (pd_op opd_fdiv (pd_var 1) pd_int) pd_int) pad_nil)) (pg_name (i := 3) sc_law.nd rfl (by first | exact Or.inl rfl | exact Or.inr rfl))
    (pssd_one (psd_set (i := 2) sc_law.nd rfl (by first | exact Or.inl rfl | exact Or.inr rfl) (pd_call G__law_changed (hr.mono (by decide)) rfl tk (pad_cons (pd_var 2) (pad_cons (pd_call G__law_cell (hr.mono (by decide)) rfl tk (pad_cons (pd_var 0) (pad_cons (pd_op opd_add pd_int (pd_var 3)) pad_nil))) pad_nil))))))
    (pssd_cons (psd_set (i := 5) sc_law.nd rfl (by first | exact Or.inl rfl | exact Or.inr rfl) (pd_join pd_str (pd_var 2)))
    (pssd_cons (psd_set (i := 6) sc_law.nd rfl (by first | exact Or.inl rfl | exact Or.inr rfl) (pd_call G__law_due (hr.mono (by decide)) rfl tk (pad_cons (pd_split (pd_var 5) pd_str) pad_nil)))
    (pssd_cons (psd_if (ptd_cmp opd_isNot (pd_var 6) pd_non (nomark _))
    (pssd_one (psd_ret (pd_cmp (opd_eq hr.units) (pd_call G__law_refused (hr.mono (by decide)) rfl tk (pad_cons (pd_var 5) pad_nil)) (pd_var 6) (nomark _))))
    pssd_nil)
    (pssd_one (psd_ret (pd_cmp (opd_eq hr.units) (pd_ix hr.u1 (pd_split (pd_meth0 (tbl := tb_told) (List.cons_ne_nil _ _) hM_told (hr.mono (by decide)) tk (pd_call G_deed_read (hr.mono (by decide)) rfl tk (pad_cons (pd_var 5) pad_nil))) pd_str) pd_int) (pd_ix hr.u1 (pd_var 2) pd_int) (nomark _)))))))))))
end
def d__law_cell : He.DefD := ⟨("_law_cell", none), "_law_cell", "_law_cell", defArgs s__law_cell, defBody s__law_cell, defScope s__law_cell, [], []⟩
def d__law_right : He.DefD := ⟨("_law_right", none), "_law_right", "_law_right", defArgs s__law_right, defBody s__law_right, defScope s__law_right, [], []⟩
def d__law_due : He.DefD := ⟨("_law_due", none), "_law_due", "_law_due", defArgs s__law_due, defBody s__law_due, defScope s__law_due, [], []⟩
def d__law_number : He.DefD := ⟨("_law_number", none), "_law_number", "_law_number", defArgs s__law_number, defBody s__law_number, defScope s__law_number, [], []⟩
def d__law_odd : He.DefD := ⟨("_law_odd", none), "_law_odd", "_law_odd", defArgs s__law_odd, defBody s__law_odd, defScope s__law_odd, [], []⟩
def d__law_changed : He.DefD := ⟨("_law_changed", none), "_law_changed", "_law_changed", defArgs s__law_changed, defBody s__law_changed, defScope s__law_changed, [], []⟩
def d_NoText___init__ : He.DefD := ⟨("NoText", some "__init__"), "__init__", "NoText.__init__", defArgs s_NoText___init__, defBody s_NoText___init__, defScope s_NoText___init__, [], []⟩
def d_divisor_of : He.DefD := ⟨("divisor_of", none), "divisor_of", "divisor_of", defArgs s_divisor_of, defBody s_divisor_of, defScope s_divisor_of, [], []⟩
def d_as_told : He.DefD := ⟨("as_told", none), "as_told", "as_told", defArgs s_as_told, defBody s_as_told, defScope s_as_told, [], []⟩
def d_Mirror___init__ : He.DefD := ⟨("Mirror", some "__init__"), "__init__", "Mirror.__init__", defArgs s_Mirror___init__, defBody s_Mirror___init__, defScope s_Mirror___init__, [], []⟩
def d_Turn___init__ : He.DefD := ⟨("Turn", some "__init__"), "__init__", "Turn.__init__", defArgs s_Turn___init__, defBody s_Turn___init__, defScope s_Turn___init__, [], []⟩
def d_HalfTurn___init__ : He.DefD := ⟨("HalfTurn", some "__init__"), "__init__", "HalfTurn.__init__", defArgs s_HalfTurn___init__, defBody s_HalfTurn___init__, defScope s_HalfTurn___init__, [], []⟩
def d_writes_whole : He.DefD := ⟨("writes_whole", none), "writes_whole", "writes_whole", defArgs s_writes_whole, defBody s_writes_whole, defScope s_writes_whole, [], []⟩
def d_deed_read : He.DefD := ⟨("deed_read", none), "deed_read", "deed_read", defArgs s_deed_read, defBody s_deed_read, defScope s_deed_read, [], []⟩
def d__law_kinds : He.DefD := ⟨("_law_kinds", none), "_law_kinds", "_law_kinds", defArgs s__law_kinds, defBody s__law_kinds, defScope s__law_kinds, [], []⟩
def d__law_whole : He.DefD := ⟨("_law_whole", none), "_law_whole", "_law_whole", defArgs s__law_whole, defBody s__law_whole, defScope s__law_whole, [], []⟩
def d__law_refused : He.DefD := ⟨("_law_refused", none), "_law_refused", "_law_refused", defArgs s__law_refused, defBody s__law_refused, defScope s__law_refused, [], []⟩
def d_words_of : He.DefD := ⟨("words_of", none), "words_of", "words_of", defArgs s_words_of, defBody s_words_of, defScope s_words_of, [], []⟩
def d_Turn__told : He.DefD := ⟨("Turn", some "told"), "told", "Turn.told", defArgs s_Turn_told, defBody s_Turn_told, defScope s_Turn_told, [], []⟩
def d_HalfTurn__told : He.DefD := ⟨("HalfTurn", some "told"), "told", "HalfTurn.told", defArgs s_HalfTurn_told, defBody s_HalfTurn_told, defScope s_HalfTurn_told, [], []⟩
def d_Mirror__told : He.DefD := ⟨("Mirror", some "told"), "told", "Mirror.told", defArgs s_Mirror_told, defBody s_Mirror_told, defScope s_Mirror_told, [], []⟩
def d_law : He.DefD := ⟨("law", none), "law", "law", defArgs s_law, defBody s_law, defScope s_law, [], []⟩
def fn : List He.DefD := [d__law_cell, d__law_right, d__law_due, d__law_number, d__law_odd, d__law_changed, d_NoText___init__, d_divisor_of, d_as_told, d_Mirror___init__, d_Turn___init__, d_HalfTurn___init__, d_writes_whole, d_deed_read, d__law_kinds, d__law_whole, d__law_refused, d_words_of, d_Turn__told, d_HalfTurn__told, d_Mirror__told, d_law]
def fa : List He.Fa := [.glo "_law_cell", .glo "_law_right", .glo "_law_due", .glo "_law_number", .glo "_law_odd", .glo "_law_changed", .glo "divisor_of", .glo "as_told", .glo "writes_whole", .glo "deed_read", .glo "_law_kinds", .glo "_law_whole", .glo "_law_refused", .glo "words_of", .glo "law", .free "len", .free "range", .free "zip", .free "enumerate", .free "reversed", .free "sorted", .free "sum", .free "all", .free "any", .free "abs", .free "min", .free "max", .free "divmod", .free "tuple", .free "list", .free "int", .free "str", .free "bool", .free "set", .free "isinstance", .free "dict", .int "MOST_FIGURES" (40), .cls "Mirror", .noat "Mirror" "kept", .cls "HalfTurn", .noat "HalfTurn" "kept", .cls "Turn", .noat "Turn" "kept", .glo "Nought", .glo "NoText", .glo "Divided", .glo "NoLine", .glo "NoName", .glo "NoOrder", .glo "NoPrime", .glo "NoSide", .glo "NoTurn", .glo "SpaceError", .glo "TooGreat", .free "ValueError", .glo "COUNTS", .mkr "Mirror", .glo "Mirror", .mkr "Turn", .glo "Turn", .mkr "HalfTurn", .glo "HalfTurn", .meth "Mirror" "told", .meth "HalfTurn" "told", .meth "Turn" "told"]
def ex (K : PySem.W.Frag) : Bool := xctB K "Nought" && xiB K "NoText" "at" && cinB K "SpaceError" && xfcB K "NoText" "at" && exTyB K "NoText" && exmB K "NoText" "NoText" true && exmB K "NoText" "Nought" false && kitB1 K "NoText" "Divided" false && kitB1 K "NoText" "NoLine" false && kitB1 K "NoText" "NoName" false && kitB1 K "NoText" "NoOrder" false && kitB1 K "NoText" "NoPrime" false && kitB1 K "NoText" "NoSide" false && kitB1 K "NoText" "NoText" true && kitB1 K "NoText" "NoTurn" false && kitB1 K "NoText" "Nought" false && kitB1 K "NoText" "SpaceError" true && kitB1 K "NoText" "TooGreat" false && kitBt K "NoText" "ValueError" true && exTyB K "Nought" && exmB K "Nought" "NoText" false && exmB K "Nought" "Nought" true && kitB1 K "Nought" "Divided" false && kitB1 K "Nought" "NoLine" false && kitB1 K "Nought" "NoName" false && kitB1 K "Nought" "NoOrder" false && kitB1 K "Nought" "NoPrime" false && kitB1 K "Nought" "NoSide" false && kitB1 K "Nought" "NoText" false && kitB1 K "Nought" "NoTurn" false && kitB1 K "Nought" "Nought" true && kitB1 K "Nought" "SpaceError" true && kitB1 K "Nought" "TooGreat" false && kitBt K "Nought" "ValueError" true && He.valsB K (He.ga K "COUNTS") (kt_COUNTS.map fun q => (q.1, He.Dv.int q.2)) && tabAll K "COUNTS" kt_COUNTS && true
def nm0 : List Str := ["_wall", "__name__", "SpaceError", "NoSide", "Nought", "TooGreat", "NoPrime", "NoLine", "NoText", "NoOrder", "Divided", "NoTurn", "NoName", "divisor_of", "lowest", "table_of", "MOST_FIGURES", "COUNTS", "as_told", "Deed", "words_of", "Turn", "HalfTurn", "Mirror", "writes_whole", "deed_read", "_law_cell", "_law_whole", "_law_number", "_law_kinds"]
def nm1 : List Str := ["_law_odd", "_law_changed", "_law_right", "_law_due", "_law_refused"]
def nms : List Str := nm0 ++ nm1
abbrev R : PySem.W.OpenRow := PySem.W.OpenLaw.row PySem.Challenge.rw_spaceturns_k41_texts_of_no_deed
def ts : List He.Tab := [(fun K => He.ga K "COUNTS", ["turn", "half", "mirror"])]
abbrev hk : PySem.W.Hook := hookS fa fn ts ex
def ob (s : PySem.W.SharedT) : He.AlX := obsS 4 fa fn ts ex (HandSHeadRun.getT s)
theorem ob_eq (s : PySem.W.SharedT) : ob s = hk.obs s.abs := obsS_eq (HandSHeadRun.getT_eq s)
theorem run_f (w : World) : HandSHeadRun.RunEq R (PySem.W.view R.prog [38]) hk ob 9000 nms (w.withFollow "special-get-raises" false) := by
  intro os
  kernel_rfl
theorem run_t (w : World) : HandSHeadRun.RunEq R (PySem.W.view R.prog [38]) hk ob 9000 nms (w.withFollow "special-get-raises" true) := by
  intro os
  kernel_rfl
theorem run (w : World) : HandSHeadRun.RunEq R (PySem.W.view R.prog [38]) hk ob 9000 nms w := by
  exact PySem.W.byRow2 "special-get-raises" (P := fun w => HandSHeadRun.RunEq R (PySem.W.view R.prog [38]) hk ob 9000 nms w) run_f run_t w
theorem facts {P : Program} {w : World} {K : PySem.W.Frag} {h : Heap} {mg : Str → Option Value} {f : Addr} (X : K.In h) (G : h.Ns mainGlobals mg) (hfa : mg ("law" : Str) = some (.ref f)) (c : He.SaysX fa fn ts [] ex w h K) :
    ∃ fd : FuncData, (∀ (s : Shared) (v : Value), BindsTo s fd ⟨[v], []⟩ [("_law_script", v)]) ∧ ∀ base : Heap, K.In base → base.Ns mainGlobals mg → FnOk P w K mg base (L2.CX P w) 13 f fd ["_law_script"] (spD K f_law) := by
  have g0 : Gs mg := fun x hx => by
    have hm : He.Fa.free x ∈ fa := by
      have h1 : He.Fa.free x ∈ frees.map He.Fa.free := List.mem_map_of_mem hx
      have h2 : fa.drop 15 = frees.map He.Fa.free ++ fa.drop 36 := rfl
      have h3 : He.Fa.free x ∈ fa.drop 15 := by rw [h2]; exact List.mem_append_left _ h1
      exact List.mem_of_mem_drop h3
    exact He.free_ok X G (c.t.d.facts hm)
  have hex := c.more
  unfold ex at hex
  simp only [Bool.and_eq_true] at hex
  have c_MOST_FIGURES : Cn mg K "MOST_FIGURES" (.int 40) := cn_int (He.int_ok X G (c.t.d.fact 36 (f := .int "MOST_FIGURES" (40)) rfl))
  obtain ⟨fd__law_cell, F__law_cell⟩ := c.t.d.def_ 0 (d := d__law_cell) rfl
  obtain ⟨fd__law_right, F__law_right⟩ := c.t.d.def_ 1 (d := d__law_right) rfl
  obtain ⟨fd__law_due, F__law_due⟩ := c.t.d.def_ 2 (d := d__law_due) rfl
  obtain ⟨fd__law_number, F__law_number⟩ := c.t.d.def_ 3 (d := d__law_number) rfl
  obtain ⟨fd__law_odd, F__law_odd⟩ := c.t.d.def_ 4 (d := d__law_odd) rfl
  obtain ⟨fd__law_changed, F__law_changed⟩ := c.t.d.def_ 5 (d := d__law_changed) rfl
  obtain ⟨fd_NoText___init__, F_NoText___init__⟩ := c.t.d.def_ 6 (d := d_NoText___init__) rfl
  obtain ⟨fd_divisor_of, F_divisor_of⟩ := c.t.d.def_ 7 (d := d_divisor_of) rfl
  obtain ⟨fd_as_told, F_as_told⟩ := c.t.d.def_ 8 (d := d_as_told) rfl
  obtain ⟨fd_Mirror___init__, F_Mirror___init__⟩ := c.t.d.def_ 9 (d := d_Mirror___init__) rfl
  obtain ⟨fd_Turn___init__, F_Turn___init__⟩ := c.t.d.def_ 10 (d := d_Turn___init__) rfl
  obtain ⟨fd_HalfTurn___init__, F_HalfTurn___init__⟩ := c.t.d.def_ 11 (d := d_HalfTurn___init__) rfl
  obtain ⟨fd_writes_whole, F_writes_whole⟩ := c.t.d.def_ 12 (d := d_writes_whole) rfl
  obtain ⟨fd_deed_read, F_deed_read⟩ := c.t.d.def_ 13 (d := d_deed_read) rfl
  obtain ⟨fd__law_kinds, F__law_kinds⟩ := c.t.d.def_ 14 (d := d__law_kinds) rfl
  obtain ⟨fd__law_whole, F__law_whole⟩ := c.t.d.def_ 15 (d := d__law_whole) rfl
  obtain ⟨fd__law_refused, F__law_refused⟩ := c.t.d.def_ 16 (d := d__law_refused) rfl
  obtain ⟨fd_words_of, F_words_of⟩ := c.t.d.def_ 17 (d := d_words_of) rfl
  obtain ⟨fd_Turn__told, F_Turn__told⟩ := c.t.d.def_ 18 (d := d_Turn__told) rfl
  obtain ⟨fd_HalfTurn__told, F_HalfTurn__told⟩ := c.t.d.def_ 19 (d := d_HalfTurn__told) rfl
  obtain ⟨fd_Mirror__told, F_Mirror__told⟩ := c.t.d.def_ 20 (d := d_Mirror__told) rfl
  obtain ⟨fd_law, F_law⟩ := c.t.d.def_ 21 (d := d_law) rfl
  have e := hfa.symm.trans (He.glo_ok X G (c.t.d.fact 14 (f := .glo "law") rfl))
  cases e
  have b := FunD.bindsA (ps := ["_law_script"]) F_law fun _ _ _ _ _ _ us hl => match us, hl with | [_], _ => rfl
  refine ⟨fd_law, fun s v => b s [v] rfl, fun base _ _ => ?_⟩
  have hF_kept : ∀ C ∈ cs_kept, Cls K (He.ga K C) ∧ NoAttr K (He.ga K C) "kept" := List.forall_mem_cons.2 ⟨⟨He.cls_ok (c.t.d.fact 41 (f := .cls "Turn") rfl), He.noat_ok (c.t.d.fact 42 (f := .noat "Turn" "kept") rfl)⟩, List.forall_mem_cons.2 ⟨⟨He.cls_ok (c.t.d.fact 39 (f := .cls "HalfTurn") rfl), He.noat_ok (c.t.d.fact 40 (f := .noat "HalfTurn" "kept") rfl)⟩, List.forall_mem_cons.2 ⟨⟨He.cls_ok (c.t.d.fact 37 (f := .cls "Mirror") rfl), He.noat_ok (c.t.d.fact 38 (f := .noat "Mirror" "kept") rfl)⟩, fun _ h => nomatch h⟩⟩⟩
  have XR_Nought : XcT K mg "Nought" := ⟨(He.glo_ok X G (c.t.d.fact 43 (f := .glo "Nought") rfl)), hex.1.1.1.1.1.1.1.1.1.1.1.1.1.1.1.1.1.1.1.1.1.1.1.1.1.1.1.1.1.1.1.1.1.1.1.1⟩
  have XF_at : XfT K "at" xf_at := List.forall_mem_cons.2 ⟨hex.1.1.1.1.1.1.1.1.1.1.1.1.1.1.1.1.1.1.1.1.1.1.1.1.1.1.1.1.1.1.1.1.1.2, fun _ h => nomatch h⟩
  have XT_NoText : XcC K mg "NoText" xc_NoText := ⟨(He.glo_ok X G (c.t.d.fact 44 (f := .glo "NoText") rfl)), List.forall_mem_cons.2 ⟨hex.1.1.1.1.1.1.1.1.1.1.1.1.1.1.1.1.1.1.1.1.1.1.1.1.1.1.1.1.1.1.1.2, List.forall_mem_cons.2 ⟨hex.1.1.1.1.1.1.1.1.1.1.1.1.1.1.1.1.2, fun _ h => nomatch h⟩⟩⟩
  have XT_Nought : XcC K mg "Nought" xc_Nought := ⟨(He.glo_ok X G (c.t.d.fact 43 (f := .glo "Nought") rfl)), List.forall_mem_cons.2 ⟨hex.1.1.1.1.1.1.1.1.1.1.1.1.1.1.1.1.1.1.1.1.1.1.1.1.1.1.1.1.1.1.2, List.forall_mem_cons.2 ⟨hex.1.1.1.1.1.1.1.1.1.1.1.1.1.1.1.2, fun _ h => nomatch h⟩⟩⟩
  have XI_Divided : IsX K mg "Divided" xb_Divided := ⟨(He.glo_ok X G (c.t.d.fact 45 (f := .glo "Divided") rfl)), List.forall_mem_cons.2 ⟨⟨hex.1.1.1.1.1.1.1.1.1.1.1.1.1.1.1.1.1.1.1.1.1.1.1.1.1.1.1.1.1.1.1.1.2, hex.1.1.1.1.1.1.1.1.1.1.1.1.1.1.1.1.1.1.1.1.1.1.1.1.1.1.1.1.1.2⟩, List.forall_mem_cons.2 ⟨⟨hex.1.1.1.1.1.1.1.1.1.1.1.1.1.1.1.1.1.2, hex.1.1.1.1.1.1.1.1.1.1.1.1.1.1.2⟩, fun _ h => nomatch h⟩⟩⟩
  have XI_NoLine : IsX K mg "NoLine" xb_NoLine := ⟨(He.glo_ok X G (c.t.d.fact 46 (f := .glo "NoLine") rfl)), List.forall_mem_cons.2 ⟨⟨hex.1.1.1.1.1.1.1.1.1.1.1.1.1.1.1.1.1.1.1.1.1.1.1.1.1.1.1.1.1.1.1.1.2, hex.1.1.1.1.1.1.1.1.1.1.1.1.1.1.1.1.1.1.1.1.1.1.1.1.1.1.1.1.2⟩, List.forall_mem_cons.2 ⟨⟨hex.1.1.1.1.1.1.1.1.1.1.1.1.1.1.1.1.1.2, hex.1.1.1.1.1.1.1.1.1.1.1.1.1.2⟩, fun _ h => nomatch h⟩⟩⟩
  have XI_NoName : IsX K mg "NoName" xb_NoName := ⟨(He.glo_ok X G (c.t.d.fact 47 (f := .glo "NoName") rfl)), List.forall_mem_cons.2 ⟨⟨hex.1.1.1.1.1.1.1.1.1.1.1.1.1.1.1.1.1.1.1.1.1.1.1.1.1.1.1.1.1.1.1.1.2, hex.1.1.1.1.1.1.1.1.1.1.1.1.1.1.1.1.1.1.1.1.1.1.1.1.1.1.1.2⟩, List.forall_mem_cons.2 ⟨⟨hex.1.1.1.1.1.1.1.1.1.1.1.1.1.1.1.1.1.2, hex.1.1.1.1.1.1.1.1.1.1.1.1.2⟩, fun _ h => nomatch h⟩⟩⟩
  have XI_NoOrder : IsX K mg "NoOrder" xb_NoOrder := ⟨(He.glo_ok X G (c.t.d.fact 48 (f := .glo "NoOrder") rfl)), List.forall_mem_cons.2 ⟨⟨hex.1.1.1.1.1.1.1.1.1.1.1.1.1.1.1.1.1.1.1.1.1.1.1.1.1.1.1.1.1.1.1.1.2, hex.1.1.1.1.1.1.1.1.1.1.1.1.1.1.1.1.1.1.1.1.1.1.1.1.1.1.2⟩, List.forall_mem_cons.2 ⟨⟨hex.1.1.1.1.1.1.1.1.1.1.1.1.1.1.1.1.1.2, hex.1.1.1.1.1.1.1.1.1.1.1.2⟩, fun _ h => nomatch h⟩⟩⟩
  have XI_NoPrime : IsX K mg "NoPrime" xb_NoPrime := ⟨(He.glo_ok X G (c.t.d.fact 49 (f := .glo "NoPrime") rfl)), List.forall_mem_cons.2 ⟨⟨hex.1.1.1.1.1.1.1.1.1.1.1.1.1.1.1.1.1.1.1.1.1.1.1.1.1.1.1.1.1.1.1.1.2, hex.1.1.1.1.1.1.1.1.1.1.1.1.1.1.1.1.1.1.1.1.1.1.1.1.1.2⟩, List.forall_mem_cons.2 ⟨⟨hex.1.1.1.1.1.1.1.1.1.1.1.1.1.1.1.1.1.2, hex.1.1.1.1.1.1.1.1.1.1.2⟩, fun _ h => nomatch h⟩⟩⟩
  have XI_NoSide : IsX K mg "NoSide" xb_NoSide := ⟨(He.glo_ok X G (c.t.d.fact 50 (f := .glo "NoSide") rfl)), List.forall_mem_cons.2 ⟨⟨hex.1.1.1.1.1.1.1.1.1.1.1.1.1.1.1.1.1.1.1.1.1.1.1.1.1.1.1.1.1.1.1.1.2, hex.1.1.1.1.1.1.1.1.1.1.1.1.1.1.1.1.1.1.1.1.1.1.1.1.2⟩, List.forall_mem_cons.2 ⟨⟨hex.1.1.1.1.1.1.1.1.1.1.1.1.1.1.1.1.1.2, hex.1.1.1.1.1.1.1.1.1.2⟩, fun _ h => nomatch h⟩⟩⟩
  have XI_NoText : IsX K mg "NoText" xb_NoText := ⟨(He.glo_ok X G (c.t.d.fact 44 (f := .glo "NoText") rfl)), List.forall_mem_cons.2 ⟨⟨hex.1.1.1.1.1.1.1.1.1.1.1.1.1.1.1.1.1.1.1.1.1.1.1.1.1.1.1.1.1.1.1.1.2, hex.1.1.1.1.1.1.1.1.1.1.1.1.1.1.1.1.1.1.1.1.1.1.1.2⟩, List.forall_mem_cons.2 ⟨⟨hex.1.1.1.1.1.1.1.1.1.1.1.1.1.1.1.1.1.2, hex.1.1.1.1.1.1.1.1.2⟩, fun _ h => nomatch h⟩⟩⟩
  have XI_NoTurn : IsX K mg "NoTurn" xb_NoTurn := ⟨(He.glo_ok X G (c.t.d.fact 51 (f := .glo "NoTurn") rfl)), List.forall_mem_cons.2 ⟨⟨hex.1.1.1.1.1.1.1.1.1.1.1.1.1.1.1.1.1.1.1.1.1.1.1.1.1.1.1.1.1.1.1.1.2, hex.1.1.1.1.1.1.1.1.1.1.1.1.1.1.1.1.1.1.1.1.1.1.2⟩, List.forall_mem_cons.2 ⟨⟨hex.1.1.1.1.1.1.1.1.1.1.1.1.1.1.1.1.1.2, hex.1.1.1.1.1.1.1.2⟩, fun _ h => nomatch h⟩⟩⟩
  have XI_Nought : IsX K mg "Nought" xb_Nought := ⟨(He.glo_ok X G (c.t.d.fact 43 (f := .glo "Nought") rfl)), List.forall_mem_cons.2 ⟨⟨hex.1.1.1.1.1.1.1.1.1.1.1.1.1.1.1.1.1.1.1.1.1.1.1.1.1.1.1.1.1.1.1.1.2, hex.1.1.1.1.1.1.1.1.1.1.1.1.1.1.1.1.1.1.1.1.1.2⟩, List.forall_mem_cons.2 ⟨⟨hex.1.1.1.1.1.1.1.1.1.1.1.1.1.1.1.1.1.2, hex.1.1.1.1.1.1.2⟩, fun _ h => nomatch h⟩⟩⟩
  have XI_SpaceError : IsX K mg "SpaceError" xb_SpaceError := ⟨(He.glo_ok X G (c.t.d.fact 52 (f := .glo "SpaceError") rfl)), List.forall_mem_cons.2 ⟨⟨hex.1.1.1.1.1.1.1.1.1.1.1.1.1.1.1.1.1.1.1.1.1.1.1.1.1.1.1.1.1.1.1.1.2, hex.1.1.1.1.1.1.1.1.1.1.1.1.1.1.1.1.1.1.1.1.2⟩, List.forall_mem_cons.2 ⟨⟨hex.1.1.1.1.1.1.1.1.1.1.1.1.1.1.1.1.1.2, hex.1.1.1.1.1.2⟩, fun _ h => nomatch h⟩⟩⟩
  have XI_TooGreat : IsX K mg "TooGreat" xb_TooGreat := ⟨(He.glo_ok X G (c.t.d.fact 53 (f := .glo "TooGreat") rfl)), List.forall_mem_cons.2 ⟨⟨hex.1.1.1.1.1.1.1.1.1.1.1.1.1.1.1.1.1.1.1.1.1.1.1.1.1.1.1.1.1.1.1.1.2, hex.1.1.1.1.1.1.1.1.1.1.1.1.1.1.1.1.1.1.1.2⟩, List.forall_mem_cons.2 ⟨⟨hex.1.1.1.1.1.1.1.1.1.1.1.1.1.1.1.1.1.2, hex.1.1.1.1.2⟩, fun _ h => nomatch h⟩⟩⟩
  have XJ_ValueError : IsXt K "ValueError" xb_ValueError := List.forall_mem_cons.2 ⟨⟨hex.1.1.1.1.1.1.1.1.1.1.1.1.1.1.1.1.1.1.1.1.1.1.1.1.1.1.1.1.1.1.1.1.2, hex.1.1.1.1.1.1.1.1.1.1.1.1.1.1.1.1.1.1.2⟩, List.forall_mem_cons.2 ⟨⟨hex.1.1.1.1.1.1.1.1.1.1.1.1.1.1.1.1.1.2, hex.1.1.1.2⟩, fun _ h => nomatch h⟩⟩
  have FV_ValueError : mg "ValueError" = none := He.free_ok X G (c.t.d.fact 54 (f := .free "ValueError") rfl)
  have T_COUNTS : Kt mg K w "COUNTS" kt_COUNTS := kt_of (He.glo_ok X G (c.t.d.fact 55 (f := .glo "COUNTS") rfl)) (c.t.tab 0 rfl) hex.1.1.2
  have U_COUNTS : tabAll K "COUNTS" kt_COUNTS = true := hex.1.2
  have G__law_cell : Dn P w K mg base "_law_cell" 2 f__law_cell := mkDn F__law_cell (ok__law_cell F__law_cell g0) (He.glo_ok X G (c.t.d.fact 0 (f := .glo "_law_cell") rfl)) fun _ _ _ _ _ _ us hl => match us, hl with | [_, _], _ => rfl
  have G__law_right : Dn P w K mg base "_law_right" 2 f__law_right := mkDn F__law_right (ok__law_right F__law_right g0) (He.glo_ok X G (c.t.d.fact 1 (f := .glo "_law_right") rfl)) fun _ _ _ _ _ _ us hl => match us, hl with | [_], _ => rfl
  have G__law_due : Dn P w K mg base "_law_due" 4 f__law_due := mkDn F__law_due (ok__law_due F__law_due g0 G__law_right) (He.glo_ok X G (c.t.d.fact 2 (f := .glo "_law_due") rfl)) fun _ _ _ _ _ _ us hl => match us, hl with | [_], _ => rfl
  have G__law_number : Dn P w K mg base "_law_number" 2 f__law_number := mkDn F__law_number (ok__law_number F__law_number g0) (He.glo_ok X G (c.t.d.fact 3 (f := .glo "_law_number") rfl)) fun _ _ _ _ _ _ us hl => match us, hl with | [_, _], _ => rfl
  have G__law_odd : Dn P w K mg base "_law_odd" 2 f__law_odd := mkDn F__law_odd (ok__law_odd F__law_odd g0) (He.glo_ok X G (c.t.d.fact 4 (f := .glo "_law_odd") rfl)) fun _ _ _ _ _ _ us hl => match us, hl with | [_], _ => rfl
  have G__law_changed : Dn P w K mg base "_law_changed" 4 f__law_changed := mkDn F__law_changed (ok__law_changed F__law_changed g0 G__law_odd) (He.glo_ok X G (c.t.d.fact 5 (f := .glo "_law_changed") rfl)) fun _ _ _ _ _ _ us hl => match us, hl with | [_, _], _ => rfl
  have XO_NoText : Xi P w K mg base "NoText" "at" 2 := mkXi F_NoText___init__ (ok_NoText___init__ F_NoText___init__ (He.glo_ok X G (c.t.d.fact 52 (f := .glo "SpaceError") rfl)) hex.1.1.1.1.1.1.1.1.1.1.1.1.1.1.1.1.1.1.1.1.1.1.1.1.1.1.1.1.1.1.1.1.1.1.2) hex.1.1.1.1.1.1.1.1.1.1.1.1.1.1.1.1.1.1.1.1.1.1.1.1.1.1.1.1.1.1.1.1.1.1.1.2 (He.glo_ok X G (c.t.d.fact 44 (f := .glo "NoText") rfl)) fun _ _ _ _ _ _ us hl => match us, hl with | [_, _], _ => rfl
  have G_divisor_of : Dn P w K mg base "divisor_of" 2 f_divisor_of := mkDn F_divisor_of (ok_divisor_of F_divisor_of g0) (He.glo_ok X G (c.t.d.fact 6 (f := .glo "divisor_of") rfl)) fun _ _ _ _ _ _ us hl => match us, hl with | [_], _ => rfl
  have G_as_told : Dn P w K mg base "as_told" 4 f_as_told := mkDn F_as_told (ok_as_told F_as_told g0 G_divisor_of XR_Nought) (He.glo_ok X G (c.t.d.fact 7 (f := .glo "as_told") rfl)) fun _ _ _ _ _ _ us hl => match us, hl with | [_], _ => rfl
  have I_Mirror : Mi P w K mg base "Mirror" "kept" 6 f_Mirror___init__ := mkMi F_Mirror___init__ (ok_Mirror___init__ F_Mirror___init__ g0 G_as_told) (He.cls_ok (c.t.d.fact 37 (f := .cls "Mirror") rfl)) (He.noat_ok (c.t.d.fact 38 (f := .noat "Mirror" "kept") rfl)) (He.mkr_ok (c.t.d.fact 56 (f := .mkr "Mirror") rfl)) (He.glo_ok X G (c.t.d.fact 57 (f := .glo "Mirror") rfl)) fun _ _ _ _ _ _ us hl => match us, hl with | [_, _], _ => rfl
  have I_Turn : Mi P w K mg base "Turn" "kept" 6 f_Turn___init__ := mkMi F_Turn___init__ (ok_Turn___init__ F_Turn___init__ g0 G_as_told) (He.cls_ok (c.t.d.fact 41 (f := .cls "Turn") rfl)) (He.noat_ok (c.t.d.fact 42 (f := .noat "Turn" "kept") rfl)) (He.mkr_ok (c.t.d.fact 58 (f := .mkr "Turn") rfl)) (He.glo_ok X G (c.t.d.fact 59 (f := .glo "Turn") rfl)) fun _ _ _ _ _ _ us hl => match us, hl with | [_, _], _ => rfl
  have I_HalfTurn : Mi P w K mg base "HalfTurn" "kept" 6 f_HalfTurn___init__ := mkMi F_HalfTurn___init__ (ok_HalfTurn___init__ F_HalfTurn___init__ g0 G_as_told) (He.cls_ok (c.t.d.fact 39 (f := .cls "HalfTurn") rfl)) (He.noat_ok (c.t.d.fact 40 (f := .noat "HalfTurn" "kept") rfl)) (He.mkr_ok (c.t.d.fact 60 (f := .mkr "HalfTurn") rfl)) (He.glo_ok X G (c.t.d.fact 61 (f := .glo "HalfTurn") rfl)) fun _ _ _ _ _ _ us hl => match us, hl with | [_, _], _ => rfl
  have G_writes_whole : Dn P w K mg base "writes_whole" 2 f_writes_whole := mkDn F_writes_whole (ok_writes_whole F_writes_whole g0 c_MOST_FIGURES) (He.glo_ok X G (c.t.d.fact 8 (f := .glo "writes_whole") rfl)) fun _ _ _ _ _ _ us hl => match us, hl with | [_], _ => rfl
  have G_deed_read : Dn P w K mg base "deed_read" 9 f_deed_read := mkDn F_deed_read (ok_deed_read F_deed_read g0 G_writes_whole I_HalfTurn I_Mirror I_Turn XO_NoText T_COUNTS U_COUNTS) (He.glo_ok X G (c.t.d.fact 9 (f := .glo "deed_read") rfl)) fun _ _ _ _ _ _ us hl => match us, hl with | [_], _ => rfl
  have G__law_kinds : Dn P w K mg base "_law_kinds" 2 f__law_kinds := mkDn F__law_kinds (ok__law_kinds F__law_kinds g0 XI_Divided XI_NoLine XI_NoName XI_NoOrder XI_NoPrime XI_NoSide XI_NoText XI_NoTurn XI_Nought XI_SpaceError XI_TooGreat XJ_ValueError FV_ValueError) (He.glo_ok X G (c.t.d.fact 10 (f := .glo "_law_kinds") rfl)) fun _ _ _ _ _ _ us hl => match us, hl with | [_], _ => rfl
  have G__law_whole : Dn P w K mg base "_law_whole" 2 f__law_whole := mkDn F__law_whole (ok__law_whole F__law_whole g0) (He.glo_ok X G (c.t.d.fact 11 (f := .glo "_law_whole") rfl)) fun _ _ _ _ _ _ us hl => match us, hl with | [_], _ => rfl
  have G__law_refused : Dn P w K mg base "_law_refused" 11 f__law_refused := mkDn F__law_refused (ok__law_refused F__law_refused g0 G__law_kinds G__law_whole G_deed_read XT_NoText XT_Nought XF_at) (He.glo_ok X G (c.t.d.fact 12 (f := .glo "_law_refused") rfl)) fun _ _ _ _ _ _ us hl => match us, hl with | [_], _ => rfl
  have G_words_of : Dn P w K mg base "words_of" 2 f_words_of := mkDn F_words_of (ok_words_of F_words_of g0) (He.glo_ok X G (c.t.d.fact 13 (f := .glo "words_of") rfl)) fun _ _ _ _ _ _ us hl => match us, hl with | [_, _], _ => rfl
  have M_Mirror__told : Mt P w K mg base "Mirror" "told" 4 f_Mirror_told := mkMt F_Mirror__told (ok_Mirror_told F_Mirror__told g0 G_words_of hF_kept) (He.cls_ok (c.t.d.fact 37 (f := .cls "Mirror") rfl)) (He.meth_ok (c.t.d.fact 62 (f := .meth "Mirror" "told") rfl)) fun _ _ _ _ _ _ us hl => match us, hl with | [_], _ => rfl
  have M_HalfTurn__told : Mt P w K mg base "HalfTurn" "told" 4 f_HalfTurn_told := mkMt F_HalfTurn__told (ok_HalfTurn_told F_HalfTurn__told g0 G_words_of hF_kept) (He.cls_ok (c.t.d.fact 39 (f := .cls "HalfTurn") rfl)) (He.meth_ok (c.t.d.fact 63 (f := .meth "HalfTurn" "told") rfl)) fun _ _ _ _ _ _ us hl => match us, hl with | [_], _ => rfl
  have M_Turn__told : Mt P w K mg base "Turn" "told" 4 f_Turn_told := mkMt F_Turn__told (ok_Turn_told F_Turn__told g0 G_words_of hF_kept) (He.cls_ok (c.t.d.fact 41 (f := .cls "Turn") rfl)) (He.meth_ok (c.t.d.fact 64 (f := .meth "Turn" "told") rfl)) fun _ _ _ _ _ _ us hl => match us, hl with | [_], _ => rfl
  have hM_told : ∀ q ∈ tb_told, Mt P w K mg base q.1 "told" 4 q.2 := List.forall_mem_cons.2 ⟨M_Turn__told, List.forall_mem_cons.2 ⟨M_HalfTurn__told, List.forall_mem_cons.2 ⟨M_Mirror__told, fun _ h => nomatch h⟩⟩⟩
  exact ok_law F_law g0 G__law_cell G__law_changed G__law_due G__law_number G__law_refused G_deed_read hM_told
end HD
open PySem PySem.W PySem.Calls PyProof.Rows
theorem HD.holds_of (hk : HD.Keeps HD.f_law) : PySem.Challenge.rw_spaceturns_k41_texts_of_no_deed.Holds := by
  w_on; o_law
  refine HandSHeadRun.head_any (r := OpenLaw.row PySem.Challenge.rw_spaceturns_k41_texts_of_no_deed) (q := view (OpenLaw.row PySem.Challenge.rw_spaceturns_k41_texts_of_no_deed).prog [38]) (H := HD.hk) (ob := HD.ob) (M := 9000) (loose := HD.nms) (d := HandSHeadRun.topDef (OpenLaw.row PySem.Challenge.rw_spaceturns_k41_texts_of_no_deed).prog 38) (kwd := []) HD.ob_eq
    (by kernel_rfl) (fun s => by kernel_rfl) HD.run (by kernel_rfl) (by kernel_rfl) (by kernel_rfl) (by rfl) (by first | assumption | decide +kernel) (by decide +kernel) ⟨rfl, rfl, rfl, rfl, rfl, by decide +kernel⟩ ?hw ?hc
  case hw => w_witness2
  case hc =>
    refine HD.walk_D (l := PySem.Challenge.rw_spaceturns_k41_texts_of_no_deed) (k := 13) (x := "_law_script") rfl (by kernel_rfl) ⟨rfl, by decide, by decide⟩ hk ?F
    intro w mg fa h Y G hmg0
    obtain ⟨K, KX, c⟩ := Y
    have hmg : mg ("law" : PySem.Str) = some (.ref fa) := by
      have e : (HandSHeadRun.topDef (OpenLaw.row PySem.Challenge.rw_spaceturns_k41_texts_of_no_deed).prog 38).name = ("law" : PySem.Str) := by kernel_rfl
      rw [← e]
      exact hmg0
    obtain ⟨fd, hb, hF⟩ := HD.facts (P := (PySem.Challenge.rw_spaceturns_k41_texts_of_no_deed).prog) (w := w) KX G hmg c
    exact ⟨K, fd, KX, hb, hF⟩
theorem PySem.Challenge.cw_spaceturns_k41_texts_of_no_deed_holds : PySem.Challenge.rw_spaceturns_k41_texts_of_no_deed.Holds := by
  exact HD.holds_of HD.law_holds
